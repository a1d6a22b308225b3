import PyProof.Rows.All
import Wide.All
import OpenK.AllK
import Wide.FinOn
import PyProof.EqAt
import PyProof.EqKinds
import PyProof.TupleCall
import KE.KLam
import HandS.ForMost
import HandS.More
import HandS.Exc
import HandS.ExcOwn
import HandS.ExcCtx
import HandS.ExcIs
import HandS.TryOnly
import HandS.Codes
import HandS.Lambda
import HandS.Hot
import HandS.HotCalls
import HandS.Wide
import HandS.IsInst
import HandS.Defaults
import HandS.Steps
import HandS.Flow
import HandS.CallRecv
import HandS.HeadHook4
import HandS.HeadWalk
import HandS.Walk
import PyProof.CompFree
import PyProof.SumWalkG
import PyProof.Rows.SumAny
import HandS.WideBits
import HandS.TupAny
import HandS.SetFor
import PySem.Challenge.RW_votewood_k66_whole_times_of_ledgers
import PyProof.StrOps2
import HandS.Style
import PyProof.Rows.SortShellAny
import HandS.Head0
import HandS.Head1
import HandS.Head2
import Wide.Once
set_option Elab.async false
set_option linter.all false
set_option maxRecDepth 100000
set_option maxHeartbeats 0
namespace Vw
open PySem PySem.Spec PyProof.Rows L2

/-! ### a def of the text that keeps its promise -/
structure Def (P : Program) (w : World) (K : PySem.W.Frag) (mg : Str → Option Value) (base : Heap) (k : Nat) (f : Addr) (ps : List Str) (sp : Sp) : Prop where
  ex : ∃ fd, FnOk P w K mg base (L2N.CX P w) k f fd ps sp ∧ Binds K fd ps []
  kp : PySem.W.keepIn K (.ref f) = true
theorem Def.mono {P : Program} {w : World} {K : PySem.W.Frag} {mg : Str → Option Value} {base : Heap} {j k : Nat} {f : Addr} {ps : List Str} {sp : Sp}
    (D : Def P w K mg base j f ps sp) (h : j ≤ k) : Def P w K mg base k f ps sp := by
  obtain ⟨⟨fd, F, b⟩, kp⟩ := D
  exact ⟨⟨fd, F.mono h, b⟩, kp⟩
theorem Def.imp {P : Program} {w : World} {K : PySem.W.Frag} {mg : Str → Option Value} {base : Heap} {k : Nat} {f : Addr} {ps : List Str} {sp sp' : Sp}
    (D : Def P w K mg base k f ps sp) (h : ∀ vs H Q E, sp' vs H Q E → sp vs H Q E) : Def P w K mg base k f ps sp' := by
  obtain ⟨⟨fd, F, b⟩, kp⟩ := D
  exact ⟨⟨fd, F.imp h, b⟩, kp⟩
/-- the text of a def stands at f -/
def Is (K : PySem.W.Frag) (x qual : Str) (st : Stmt) (f : Addr) : Prop := ∃ fd, FunD K x qual (defArgs st) (defBody st) (defScope st) [] [] f fd
abbrev cxN (P : Program) (w : World) (K : PySem.W.Frag) (mg : Str → Option Value) (base : Heap) (N : List Str) (qual : Str) (sc : Scope) (f : Addr) (cd : Value) (A : Around) (outer : List Env) (s : Shared) (H : Hp) (E : XK) : Cx :=
  cxOf (L2N.CX P w) P w K mg base N qual sc f cd A outer s H E
/-- how a def's arguments bind: no defaults -/
def BindEq (x qual : Str) (st : Stmt) (ps : List Str) : Prop :=
  ∀ (kV doc pm : Value) (an : Option Addr) (cdv ct : Value) (us : List Value), us.length = ps.length →
    bindArgs (PySem.W.fnOf x qual (defArgs st) (defBody st) (defScope st) .none kV doc pm an cdv ct) ⟨us, []⟩ = pure (ps.zip us)
section
variable {P : Program} {w : World} {K : PySem.W.Frag} {mg : Str → Option Value} {base : Heap}
theorem mk_def {x qual : Str} {st : Stmt} {f : Addr} {N ps : List Str} {k : Nat} {sp : Sp} (F : Is K x qual st f) (S : FnScope N ps (defScope st)) (hb : BindEq x qual st ps)
    (len : ∀ vs H Q E, sp vs H Q E → vs.length = ps.length)
    (body : ∀ (cdv : Value) (A : Around) (outer : List Env) (s : Shared) (H : Hp) (vs : List V) (Q : VK) (E : XK), Room k (A.deeper (envOfC qual (defScope st) s.heap.objs.size f cdv)) → sp vs H Q E →
      ∃ t, PSs (cxN P w K mg base N qual (defScope st) f cdv A outer s H E) (defBody st) t ∧ t { nx := fun _ H' => Q .non H', rt := Q } (start N vs) H) :
    Def P w K mg base (k + 1) f ps sp := by
  obtain ⟨fd, F⟩ := F
  exact ⟨⟨fd, F.ok S len body, F.bindsN hb⟩, F.kp⟩
theorem passE {N : List Str} {qual : Str} {sc : Scope} {f : Addr} {cd : Value} {A : Around} {outer : List Env} {s : Shared} {H : Hp} {E : XK} :
    Passes (L2N.CX P w) (cxN P w K mg base N qual sc f cd A outer s H E) E :=
  L2N.passes_call (L2N.takes_of rfl rfl rfl rfl) fun _ _ _ _ h => h
theorem takesE {N : List Str} {qual : Str} {sc : Scope} {f : Addr} {cd : Value} {A : Around} {outer : List Env} {s : Shared} {H : Hp} {E : XK} :
    L2N.Takes (cxN P w K mg base N qual sc f cd A outer s H E) (fun cls d _ H' => E cls d H') := L2N.takes_of rfl rfl rfl rfl
theorem ownE {N : List Str} {qual : Str} {sc : Scope} {f : Addr} {cd : Value} {A : Around} {outer : List Env} {s : Shared} {H : Hp} {E : XK} :
    PassesOwn (model P w) (cxN P w K mg base N qual sc f cd A outer s H E).A (cxN P w K mg base N qual sc f cd A outer s H E).env (cxN P w K mg base N qual sc f cd A outer s H E).xe :=
  passes_of (X := cxN P w K mg base N qual sc f cd A outer s H E) rfl
end
/-- where nothing may be let out -/
theorem passF {X : Cx} : Passes (L2N.CX X.prog X.w) X E0 := fun _ _ _ _ _ _ _ h => by
  obtain ⟨_, _, _, _, _, _, _, _, _, _, _, _, z⟩ := h
  exact z.elim
section
variable {X : Cx} {k : Nat} {f C : Addr} {ps : List Str} {sp : Sp} {E : XK} {x m : Str} {p pos apos : Pos} {e o : Expr} {es : List Expr} {ta : TE} {t : TA}
theorem pe_cd (D : Def X.prog X.w X.K X.mg X.base k f ps sp) (hr : Room k X.A) (hm : X.mg x = some (.ref f)) (hx : Passes (L2N.CX X.prog X.w) X E) (ha : PA X (e :: es) t)
    (hg : Gl X x := by rfl) (hdb : (x == ("__debug__" : Str)) = false := by decide) (he : starEach (e :: es) X.env = (false, eval e X.env) :: starEach es X.env := by rfl)
    (hpl : (backTo pos (starEach es X.env)).any (·.1) = false := by rfl) : PE X (.Call (.Name x p) (e :: es) [] pos) (tCall sp [] E t) := by
  obtain ⟨⟨fd, F, b⟩, kp⟩ := D
  exact pe_call F hr hg hm kp b .nil hx ha hdb he hpl
theorem pe_cd0 (D : Def X.prog X.w X.K X.mg X.base k f ps sp) (hr : Room k X.A) (hm : X.mg x = some (.ref f)) (hx : Passes (L2N.CX X.prog X.w) X E)
    (hg : Gl X x := by rfl) (hdb : (x == ("__debug__" : Str)) = false := by decide) : PE X (.Call (.Name x p) [] [] pos) (tCall sp [] E tNil) := by
  obtain ⟨⟨fd, F, b⟩, kp⟩ := D
  exact pe_call0 F hr hg hm kp b .nil hx hdb
theorem pe_md {pl : Sem Bool} (he : PE X o ta) (c : Cls X.K C) (hm : Meth X.K C m f) (D : Def X.prog X.w X.K X.mg X.base k f ps sp) (hr : Room k X.A) (hx : Passes (L2N.CX X.prog X.w) X E) (ha : PA X (e :: es) t)
    (hst : starEach (e :: es) X.env = (false, eval e X.env) :: starEach es X.env := by rfl) (hpl : (backTo pos (starEach es X.env)).any (·.1) = false := by rfl)
    (ht : eval (.Call (.Attribute o m apos) (e :: es) [] pos) X.env = (do
      let ov ← eval o X.env
      standAt apos.atName
      let (f, first) ← holding [ov] (getMethod ov m pl)
      callWith pos f first (backTo pos (starEach (e :: es) X.env)) (backToKw pos (keywordEach [] X.env))) := by rfl) :
    PE X (.Call (.Attribute o m apos) (e :: es) [] pos) (tMeth C m sp [] E ta t) := by
  obtain ⟨⟨fd, F, b⟩, kp⟩ := D
  exact pe_meth he c hm F hr b .nil hx ha hst hpl ht
theorem pe_md0 {pl : Sem Bool} (he : PE X o ta) (c : Cls X.K C) (hm : Meth X.K C m f) (D : Def X.prog X.w X.K X.mg X.base k f ps sp) (hr : Room k X.A) (hx : Passes (L2N.CX X.prog X.w) X E)
    (ht : eval (.Call (.Attribute o m apos) [] [] pos) X.env = (do
      let ov ← eval o X.env
      standAt apos.atName
      let (f, first) ← holding [ov] (getMethod ov m pl)
      callWith pos f first (backTo pos (starEach [] X.env)) (backToKw pos (keywordEach [] X.env))) := by rfl) :
    PE X (.Call (.Attribute o m apos) [] [] pos) (tMeth C m sp [] E ta tNil) := by
  obtain ⟨⟨fd, F, b⟩, kp⟩ := D
  exact pe_meth0 he c hm F hr b .nil hx ht
theorem pe_mk (M : Mk X.K C f) (D : Def X.prog X.w X.K X.mg X.base k f ps sp) (hr : Room (k + 1) X.A) (hm : X.mg x = some (.ref C)) (hx : Passes (L2N.CX X.prog X.w) X E) (ha : PA X (e :: es) t)
    (hg : Gl X x := by rfl) (hdb : (x == ("__debug__" : Str)) = false := by decide) (he : starEach (e :: es) X.env = (false, eval e X.env) :: starEach es X.env := by rfl)
    (hpl : (backTo pos (starEach es X.env)).any (·.1) = false := by rfl) : PE X (.Call (.Name x p) (e :: es) [] pos) (tMake C sp [] E t) := by
  obtain ⟨⟨fd, F, b⟩, kp⟩ := D
  exact pe_make M F hr hg hm b .nil hx ha hdb he hpl
theorem pe_mk0 (M : Mk X.K C f) (D : Def X.prog X.w X.K X.mg X.base k f ps sp) (hr : Room (k + 1) X.A) (hm : X.mg x = some (.ref C)) (hx : Passes (L2N.CX X.prog X.w) X E)
    (hg : Gl X x := by rfl) (hdb : (x == ("__debug__" : Str)) = false := by decide) : PE X (.Call (.Name x p) [] [] pos) (tMake C sp [] E tNil) := by
  obtain ⟨⟨fd, F, b⟩, kp⟩ := D
  exact pe_make0 M F hr hg hm b .nil hx hdb
end

/-! ### an own exception class; an own class -/
structure Exc (K : PySem.W.Frag) (mg : Str → Option Value) (x : Str) : Prop where
  g : mg x = some (.ref (He.ga K x))
  y : PySem.W.excIn K (He.ga K x) He.veBase "ValueError.__new__" = true
  k : PySem.W.keepIn K (.ref (He.ga K x)) = true
  b : PySem.W.subIn K (.ref (He.ga K x)) (.type "BaseException") = some true
  t : PySem.W.typeIn K (.ref (He.ga K x)) = some (.type "type")
section
variable {P : Program} {w : World} {K : PySem.W.Frag} {mg : Str → Option Value} {base : Heap}
/-- raise X('..') in a def -/
theorem ps_rs {N : List Str} {qual : Str} {sc : Scope} {f : Addr} {cd : Value} {A : Around} {outer : List Env} {s : Shared} {H : Hp} {E : XK} {x z : Str} {j : Nat} {p p2 pos pos2 : Pos} (T : Exc K mg x)
    (hg : Gl (cxN P w K mg base N qual sc f cd A outer s H E) x := by rfl) (hdb : (x == ("__debug__" : Str)) = false := by decide) :
    PS (cxN P w K mg base N qual sc f cd A outer s H E) (.Raise (some (.Call (.Name x p) [.Constant (.str z) j p2] [] pos)) none pos2) (fun _ _ H' => E (.ref (He.ga K x)) none H') :=
  L2N.ps_raise (W := fun cls d _ H' => E cls d H') rfl takesE (L2N.pmk_own PySem.F.excBase_ValueError T.y T.g T.k (raises_own T.b T.t) hg hdb)
end
structure Own (K : PySem.W.Frag) (mg : Str → Option Value) (x : Str) : Prop where
  g : mg x = some (.ref (He.ga K x))
  c : Cls K (He.ga K x)
  m : Mk K (He.ga K x) (He.ma K (He.ga K x) "__init__")
/-- a new object: forget all but that the rest stays -/
theorem fresh {H : Hp} {o : HO} {G : Addr → Hp → Prop} (h : ∀ (l : Addr) (H1 : Hp), Same H H1 → H l = none → H1 l = some o → G l H1) : ∀ l, H l = none → G l (upd H l o) := fun l hl =>
  h l _ (fun b u e => by rw [upd_ne (ne_of_none e hl)]; exact e) hl upd_same
/-- a constant of the module -/
structure GK (mg : Str → Option Value) (x : Str) (v : V) : Prop where
  ex : ∃ u, mg x = some u ∧ RelV v u
theorem pe_gk {X : Cx} {x : Str} {v : V} {pos : Pos} (h : GK X.mg x v) (hg : Gl X x := by rfl) (hd : (x == ("__debug__" : Str)) = false := by decide) : PE X (.Name x pos) (tC v) := by
  obtain ⟨u, e, r⟩ := h.ex
  exact pe_glob hg e r hd
/-- what the refusals' classes are to one another -/
structure Wd1 (K : PySem.W.Frag) (cs : List Str) (c : Str) : Prop where
  e : ExcC K (He.ga K c)
  m : PySem.W.exmOne K (.ref (He.ga K c)) (.ref (He.ga K "WoodError")) = some true
  v : PySem.W.kitOne K (.ref (He.ga K c)) (.type "ValueError") = some true
  d : ∀ d ∈ cs, PySem.W.kitOne K (.ref (He.ga K c)) (.ref (He.ga K d)) = some (decide (c = d))
def Word (K : PySem.W.Frag) (cs : List Str) : Prop := ∀ c ∈ cs, Wd1 K cs c
def oB (a b : Option Bool) : Bool := decide (a = b)
def excCB (K : PySem.W.Frag) (D : Addr) : Bool :=
  He.eqO (PySem.W.findIn K (.ref D) "__getattribute__") (some (some (.builtin "BaseException.__getattribute__"))) && (
  He.eqO (PySem.W.findIn K (.ref D) "__getattr__") (some none) && (
  oB (PySem.W.subIn K (.ref D) (.type "BaseException")) (some true) && (
  PySem.W.hasDictIn K D && (
  He.eqO (PySem.W.findIn K (.ref D) "__class__") (some (some (.builtin "object.__class__"))) && (
  He.eqO (PySem.W.specialIn K (.builtin "object.__class__") "__get__") (some (some (.builtin "getset_descriptor.__get__"))) && (
  oB (PySem.W.takesIn K (.builtin "object.__class__")) (some true) && oB (PySem.W.mroIn K D (.type "object")) (some true)))))))
theorem excCB_ok {K : PySem.W.Frag} {D : Addr} (h : excCB K D = true) : ExcC K D := by
  obtain ⟨h1, h⟩ := He.ba h
  obtain ⟨h2, h⟩ := He.ba h
  obtain ⟨h3, h⟩ := He.ba h
  obtain ⟨h4, h⟩ := He.ba h
  obtain ⟨h5, h⟩ := He.ba h
  obtain ⟨h6, h⟩ := He.ba h
  obtain ⟨h7, h8⟩ := He.ba h
  exact ⟨He.eqO_ok h1, He.eqO_ok h2, of_decide_eq_true h3, h4, He.eqO_ok h5, He.eqO_ok h6, of_decide_eq_true h7, of_decide_eq_true h8⟩
def wordB (K : PySem.W.Frag) (cs : List Str) : Bool := cs.all fun c => excCB K (He.ga K c) && (oB (PySem.W.exmOne K (.ref (He.ga K c)) (.ref (He.ga K "WoodError"))) (some true) && (
  oB (PySem.W.kitOne K (.ref (He.ga K c)) (.type "ValueError")) (some true) && cs.all fun d => oB (PySem.W.kitOne K (.ref (He.ga K c)) (.ref (He.ga K d))) (some (decide (c = d)))))
theorem wordB_ok {K : PySem.W.Frag} {cs : List Str} (h : wordB K cs = true) : Word K cs := fun c hc => by
  have h := List.all_eq_true.mp h c hc
  obtain ⟨h1, h⟩ := He.ba h
  obtain ⟨h2, h⟩ := He.ba h
  obtain ⟨h3, h4⟩ := He.ba h
  exact ⟨excCB_ok h1, of_decide_eq_true h2, of_decide_eq_true h3, fun d hd => of_decide_eq_true (List.all_eq_true.mp h4 d hd)⟩
section
variable {X : Cx} {o i e f value a b : Expr} {td ty tv tx ta tb : TE} {pos pos' apos cpos : Pos}
theorem pe_dg (ho : PE X o td) (hi : PE X i ty) (hu : X.A.units + 1 < cLine) (hs : NoSl i := by intro _ _; rfl) : PE X (.Subscript o i pos) (tDGet td ty) := pe_dget hu ho hi hs
theorem pc_di (hi : PE X i ty) (ho : PE X o td) (hu : X.A.units + 1 < cLine) : PC X .In i o (tDIn ty td) := pc_din hu hi ho
theorem pc_dni (hi : PE X i ty) (ho : PE X o td) (hu : X.A.units + 1 < cLine) : PC X .NotIn i o (tDNotIn ty td) := pc_dnotin hu hi ho
theorem ps_dp (ho : PE X o td) (hi : PE X i ty) (hv : PE X value tv) (hu : X.A.units + 1 < cLine) (hs : swapsWith value (some (.Subscript o i pos')) pos.line X.env = pure false := by rfl) :
    PS X (.Assign [.Subscript o i pos'] value pos) (sDPut td ty tv) := ps_dput hu ho hi hv hs
theorem pe_dg1 (ho : PE X o td) (he : PE X e ty) (hu : X.A.units + 1 < cLine) (m : M1 X o "get" apos e cpos := by exact ⟨rfl, rfl, rfl, rfl⟩) : PE X (.Call (.Attribute o "get" apos) [e] [] cpos) (tDGet1 td ty) := pe_dget1 hu ho he m
theorem pe_dg2 (ho : PE X o td) (he : PE X e ty) (hf : PE X f tx) (hu : X.A.units + 1 < cLine) (m : M2 X o "get" apos e f cpos := by exact ⟨rfl, rfl, rfl, rfl⟩) : PE X (.Call (.Attribute o "get" apos) [e, f] [] cpos) (tDGet2 td ty tx) := pe_dget2 hu ho he hf m
theorem pe_dp1 (ho : PE X o td) (he : PE X e ty) (m : M1 X o "pop" apos e cpos := by exact ⟨rfl, rfl, rfl, rfl⟩) : PE X (.Call (.Attribute o "pop" apos) [e] [] cpos) (tDPop1 td ty) := pe_dpop1 ho he m
theorem pe_dp2 (ho : PE X o td) (he : PE X e ty) (hf : PE X f tx) (m : M2 X o "pop" apos e f cpos := by exact ⟨rfl, rfl, rfl, rfl⟩) : PE X (.Call (.Attribute o "pop" apos) [e, f] [] cpos) (tDPop2 td ty tx) := pe_dpop2 ho he hf m
theorem pe_eqd (ha : PE X a ta) (hb : PE X b tb) (hu : X.A.units + 64 < cLine) : PE X (.Compare a [.Eq] [b] pos) (tOp (rEqD X.K) ta tb) := pe_cmpR (op_eqD hu) ha hb (nomark _)
theorem pt_eqd (ha : PE X a ta) (hb : PE X b tb) (hu : X.A.units + 64 < cLine) : PT X (.Compare a [.Eq] [b] pos) (tTest (tOp (rEqD X.K) ta tb)) := pt_cmpR (op_eqD hu) ha hb (nomark _)
theorem pe_ned (ha : PE X a ta) (hb : PE X b tb) (hu : X.A.units + 64 < cLine) : PE X (.Compare a [.NotEq] [b] pos) (tOp (rNeD X.K) ta tb) := pe_cmpR (op_neD hu) ha hb (nomark _)
theorem pt_ned (ha : PE X a ta) (hb : PE X b tb) (hu : X.A.units + 64 < cLine) : PT X (.Compare a [.NotEq] [b] pos) (tTest (tOp (rNeD X.K) ta tb)) := pt_cmpR (op_neD hu) ha hb (nomark _)
end
/-- rules that name the written part: within a comprehension's block -/
theorem pe_fldK (K : PySem.W.Frag) {X : Cx} {e : Expr} {ta : TE} {f : Str} {pos : Pos} (he : PE X e ta) (hb : attributeBase e f X.env (eval e X.env) = eval e X.env := by rfl) (hK : X.K = K := by rfl) : PE X (.Attribute e f pos) (tFld K ta f) := by
  subst hK
  exact pe_fld he hb
end Vw
namespace Vw
open PySem PySem.Spec PyProof.Rows L2
theorem cxOf_K {CX : CXT} {P : Program} {w : World} {K : PySem.W.Frag} {mg : Str → Option Value} {base : Heap} {N : List Str} {qual : Str} {sc : Scope} {f : Addr} {cd : Value} {A : Around} {outer : List Env} {s : Shared} {H : Hp} {E : XK} :
    (cxOf CX P w K mg base N qual sc f cd A outer s H E).K = K := rfl
/-! ### comprehensions that change nothing -/
theorem filterMap_take {α β : Type} (f : α → Option β) {l : List α} {i : Nat} {a : α} (h : l[i]? = some a) : (l.take (i + 1)).filterMap f = (l.take i).filterMap f ++ (f a).toList := by
  rw [List.take_add_one, h, List.filterMap_append]
  cases e : f a <;> simp [e]
theorem lc_ro {α : Type} {J : It} {G : Hp → Prop} {Y : Nat → Hp → V → Hp → Prop} (l : List α) (w : Walk J l.length G Y) (f : α → Option V) {g : TG} {tt : TT} {te : TE} {vs : List Nat} {σ : L2.St} {H1 : Hp} {D : Addr} {Qd : Hp → Prop}
    (hn : l.length < sizeLine) (hD : H1 D = none) (hG : ∀ H, Same H1 H → G H)
    (hs : ∀ i a x H H', l[i]? = some a → Same H1 H → Y i H x H' → ∀ (N1 : V → Hp → Prop) (N0 : Hp → Prop), (∀ y H4, Same H H4 → f a = some y → N1 y H4) → (∀ H3, Same H H3 → f a = none → N0 H3) →
      g x (wipe σ vs) H' fun σ2 H2 => wipe σ2 vs = wipe σ vs ∧ tt σ2 H2 fun b H3 => if b = true then te σ2 H3 N1 else N0 H3)
    (hd : ∀ H, Same H1 H → H D = some (.lst (l.filterMap f)) → Qd H) :
    ∃ W : Nat → Nat → Hp → Prop, (∃ m, W 0 m (upd H1 D (.lst []))) ∧ ∀ i m H, W i m H →
      (J.stop i H ∧ Qd H) ∨ (J.go i H ∧ ∃ Nx : Hp → Prop, (∀ H', Nx H' → ∃ m', m' < m ∧ W (i + 1) m' H') ∧ ∀ x H', J.yld i H x H' → g x (wipe σ vs) H' fun σ2 H2 => wipe σ2 vs = wipe σ vs ∧ tt σ2 H2 fun b H3 =>
        if b = true then te σ2 H3 fun y H4 => ∃ acc, H4 D = some (.lst acc) ∧ acc.length < sizeLine ∧ Nx (upd H4 D (.lst (acc ++ [y]))) else Nx H3) := by
  have new : ∀ {H : Hp} {o : HO}, Same H1 H → Same H1 (upd H D o) := fun {H o} s b u e => by
    rw [upd_ne (ne_of_none e hD)]
    exact s b u e
  refine lc_it w (fun i H => Same H1 H ∧ H D = some (.lst ((l.take i).filterMap f))) ⟨new (Same.refl _), ?_⟩ (fun i H _ p => hG H p.1) (fun i x H H' hi p y => ?_) (fun H p => ?_)
  · rw [upd_same]
    simp
  · obtain ⟨a, ha⟩ : ∃ a, l[i]? = some a := ⟨l[i], by simp [hi]⟩
    refine hs i a x H H' ha p.1 y _ _ (fun y H4 s4 ef => ⟨_, s4 _ _ p.2, ?_, new (p.1.trans s4), ?_⟩) (fun H3 s3 ef => ⟨p.1.trans s3, ?_⟩)
    · have h1 := List.length_filterMap_le f (l.take i)
      have h2 : (l.take i).length ≤ l.length := by rw [List.length_take]; omega
      omega
    · rw [upd_same, filterMap_take f ha, ef]
      rfl
    · rw [filterMap_take f ha, ef, s3 _ _ p.2]
      simp
  · have e := p.2
    rw [List.take_length] at e
    exact hd H p.1 e
/-! ### a lock that is opened again -/
theorem Same.lock {H H' : Hp} {d : Addr} {u f : HO} (hd : H d = some u) (s : Same (upd H d f) H') : Same H (upd H' d u) := fun b o e => by
  by_cases hb : b = d
  · subst hb
    rw [hd] at e
    cases e
    exact upd_same
  · rw [upd_ne hb]
    exact s b o (by rw [upd_ne hb]; exact e)
theorem Same.at {H H' : Hp} {a : Addr} {o : HO} (s : Same H H') (h : H a = some o) : H' a = some o := s a o h
theorem Same.new {H : Hp} {l : Addr} {o : HO} (hl : H l = none) : Same H (upd H l o) := fun b u e => by rw [upd_ne (ne_of_none e hl)]; exact e
mutual
theorem dp_same {K : PySem.W.Frag} {H H' : Hp} (s : Same H H') : ∀ {x : V} {d : PyData}, Dp K H x d → Dp K H' x d
  | _, _, .non => .non
  | _, _, .bl b => .bl b
  | _, _, .int i => .int i
  | _, _, .str z => .str z
  | _, _, .lst hs h => .lst (s.seq hs) (dps_same s h)
  | _, _, .tup hs h => .tup (by
      rcases hs with (h | ⟨o, h⟩) | h
      · exact .inl (.inl (s _ _ h))
      · exact .inl (.inr ⟨o, s _ _ h⟩)
      · exact .inr h) (dps_same s h)
theorem dps_same {K : PySem.W.Frag} {H H' : Hp} (s : Same H H') : ∀ {xs : List V} {ds : List PyData}, DpAll K H xs ds → DpAll K H' xs ds
  | _, _, .nil => .nil
  | _, _, .cons h t => .cons (dp_same s h) (dps_same s t)
end
theorem Same.tup {K : PySem.W.Frag} {H H' : Hp} {a : Addr} {xs : List V} (s : Same H H') (h : SqT K H a xs) : SqT K H' a xs := by
  rcases h with (h | ⟨o, h⟩) | h
  · exact .inl (.inl (s _ _ h))
  · exact .inl (.inr ⟨o, s _ _ h⟩)
  · exact .inr h
/-! ### comprehensions by their source -/
section
variable {K : PySem.W.Frag} {te0 : TE} {g : TG} {tt : TT} {te : TE} {vs : List Nat} {σ : L2.St} {H : Hp} {Q : VK}
/-- one turn: the item x; N1 behind an element, N0 where the test fails -/
def Turn1 {α : Type} (f : α → Option V) (g : TG) (tt : TT) (te : TE) (vs : List Nat) (σ : L2.St) (H : Hp) (a : α) (x : V) : Prop :=
  ∀ (N1 : V → Hp → Prop) (N0 : Hp → Prop), (∀ y H4, Same H H4 → f a = some y → N1 y H4) → (∀ H3, Same H H3 → f a = none → N0 H3) →
    g x (wipe σ vs) H fun σ2 H2 => wipe σ2 vs = wipe σ vs ∧ tt σ2 H2 fun b H3 => if b = true then te σ2 H3 N1 else N0 H3
/-- over a text -/
theorem lcS {z : Str} (f : Nat → Option V) (src : ∀ R : VK, R (.str z) H → te0 σ H R) (hn : z.length < sizeLine)
    (hs : ∀ c H', c ∈ z.cps.toList → Same H H' → Turn1 f g tt te vs σ H' c (.str ⟨#[c]⟩))
    (hd : ∀ D H', H D = none → Same H H' → H' D = some (.lst (z.cps.toList.filterMap f)) → Q (.ref D) H') : tLc (iStr te0) g tt te vs σ H Q := by
  refine src _ ⟨z, rfl, fun D hD => ?_⟩
  have w : Walk (Its z) z.cps.toList.length (fun _ => True) (fun i H v H' => H' = H ∧ ∃ c, z.cps[i]? = some c ∧ v = .str ⟨#[c]⟩) := by
    rw [Array.length_toList]
    exact walk_str
  refine lc_ro z.cps.toList w f (by rw [Array.length_toList]; exact hn) hD (fun _ _ => trivial) (fun i a x H1 H2 ha s1 y => ?_) (fun H' s1 e => hd D H' hD s1 e)
  obtain ⟨rfl, c, hc, rfl⟩ := y
  have e : c = a := by
    rw [Array.getElem?_toList] at ha
    rw [hc] at ha
    exact Option.some.inj ha
  subst e
  exact hs c _ (List.mem_of_getElem? ha) s1
/-- over a list that is made, or stands -/
theorem lcL {α : Type} {l : List α} (it : α → V) (f : α → Option V) (src : ∀ R : VK, (∀ p H1, Same H H1 → SqL K H1 p (l.map it) → R (.ref p) H1) → te0 σ H R) (hn : l.length < sizeLine)
    (hs : ∀ a H', a ∈ l → Same H H' → Turn1 f g tt te vs σ H' a (it a))
    (hd : ∀ D H', H D = none → Same H H' → H' D = some (.lst (l.filterMap f)) → Q (.ref D) H') : tLc (iList K te0) g tt te vs σ H Q := by
  refine src _ fun p H1 s1 hp => ⟨p, rfl, ⟨_, hp⟩, fun D hD => ?_⟩
  have w : Walk (Itl K p) l.length (fun H => SqL K H p (l.map it)) (YAt (l.map it)) := by
    have w := walk_list (K := K) (a := p) (xs := l.map it)
    rw [List.length_map] at w
    exact w
  refine lc_ro l w f hn hD (fun H' s => s.seq hp) (fun i a x H2 H3 ha s2 y => ?_) (fun H' s2 e => hd D H' (s1.free hD) (s1.trans s2) e)
  obtain ⟨rfl, hx⟩ := y
  have e : x = it a := by
    rw [List.getElem?_map, ha] at hx
    exact (Option.some.inj hx).symm
  subst e
  exact hs a _ (List.mem_of_getElem? ha) (s1.trans s2)
/-- over a range -/
theorem lcR {n : Int} {ta : TA} (f : Nat → Option V) (src : ∀ R : List V → Hp → Prop, R [.int n] H → ta σ H R) (hn : n < 10000)
    (hs : ∀ (i : Nat) H', (i : Int) < n → Same H H' → Turn1 f g tt te vs σ H' i (.int i))
    (hd : ∀ D H', H D = none → Same H H' → H' D = some (.lst ((List.range n.toNat).filterMap f)) → Q (.ref D) H') (h0 : -10000 < n := by omega) : tLc (iRng1 ta) g tt te vs σ H Q := by
  refine src _ ⟨n, rfl, by omega, by omega, fun D hD => ?_⟩
  have w : Walk (Itr 0 n.toNat) (List.range n.toNat).length (fun _ => True) (YFn fun i => .int (0 + (i : Nat))) := by
    rw [List.length_range]
    exact walk_range
  refine lc_ro (List.range n.toNat) w f (by rw [List.length_range, sizeLine_eq]; omega) hD (fun _ _ => trivial) (fun i a x H2 H3 ha s2 y => ?_) (fun H' s2 e => hd D H' hD s2 e)
  obtain ⟨rfl, rfl⟩ := y
  have hi : i < n.toNat := by
    have := (List.getElem?_eq_some_iff.mp ha).1
    rwa [List.length_range] at this
  have e : i = a := by
    rw [List.getElem?_range hi] at ha
    exact Option.some.inj ha
  subst e
  have q := hs i H3 (by omega) s2
  have z : (0 : Int) + ((i : Nat) : Int) = (i : Int) := by omega
  dsimp only
  rw [z]
  exact q
/-- over a dict's keys, under its lock -/
theorem lcK {α : Type} {l : List α} {d : Addr} (kv : α → Key × V) (f : α → Option V) (hk : H d = some (.dK (l.map kv))) (src : ∀ (H' : Hp) (R : VK), (∀ b o, b ≠ d → H b = some o → H' b = some o) → R (.ref d) H' → te0 σ H' R) (hn : l.length < sizeLine)
    (hs : ∀ a H' od, a ∈ l → (∀ b o, b ≠ d → H b = some o → H' b = some o) → H' d = some (.frz od (.dK (l.map kv))) → Turn1 f g tt te vs σ H' a (kV (kv a).1))
    (hd : ∀ D H', H D = none → Same H H' → H' D = some (.lst (l.filterMap f)) → Q (.ref D) H') : tLockE (tLc (iKeys te0) g tt te vs) σ H Q := by
  refine ⟨d, _, hk, trivial, fun od => ?_⟩
  have un : ∀ H', Same (upd H d (.frz od (.dK (l.map kv)))) H' → ∀ b o, b ≠ d → H b = some o → H' b = some o := fun H' s b o hb e => s b o (by rw [upd_ne hb]; exact e)
  refine src _ _ (un _ (Same.refl _)) ⟨d, od, rfl, .inl ⟨_, upd_same, fun D hD => ?_⟩⟩
  have nD : D ≠ d := fun z => by
    rw [z, upd_same] at hD
    cases hD
  have w : Walk (Itk d od (l.map kv)) l.length (fun H => H d = some (.frz od (.dK (l.map kv)))) (fun i H x H' => H' = H ∧ ∃ k v, (l.map kv)[i]? = some (k, v) ∧ x = kV k) := by
    have w := walk_keys (d := d) (o := od) (kvs := l.map kv)
    rw [List.length_map] at w
    exact w
  refine lc_ro l w f hn hD (fun H' s => s _ _ upd_same) (fun i a x H2 H3 ha s2 y => ?_) (fun H' s2 e => ⟨s2 _ _ upd_same, hd D _ (by rw [upd_ne nD] at hD; exact hD) (Same.lock hk s2) (by rw [upd_ne nD]; exact e)⟩)
  obtain ⟨rfl, k, v, hx, rfl⟩ := y
  have e : (k, v) = kv a := by
    rw [List.getElem?_map, ha] at hx
    exact (Option.some.inj hx).symm
  have e1 : k = (kv a).1 := congrArg Prod.fst e
  rw [e1]
  exact hs a _ od (List.mem_of_getElem? ha) (un _ s2) (s2 _ _ upd_same)
end
/-! ### for over a list -/
theorem forL {α : Type} {K : PySem.W.Frag} {te0 : TE} {g : TG} {tb : TS} {D : Ends} {σ : L2.St} {H : Hp} {l : List α} (it : α → V) (src : ∀ R : VK, (∀ p H1, Same H H1 → SqL K H1 p (l.map it) → R (.ref p) H1) → te0 σ H R)
    (Pv : Addr → Nat → L2.St → Hp → Prop) (h0 : ∀ p H1, Same H H1 → SqL K H1 p (l.map it) → Pv p 0 σ H1) (hG : ∀ p i σ' H', i ≤ l.length → Pv p i σ' H' → SqL K H' p (l.map it))
    (hs : ∀ p i a σ' H', l[i]? = some a → Pv p i σ' H' → g (it a) σ' H' fun σ2 H2 => tb { D with nx := Pv p (i + 1), ct := Pv p (i + 1), bk := D.nx } σ2 H2)
    (hd : ∀ p σ' H', Pv p l.length σ' H' → D.nx σ' H') : tFor (iList K te0) g tb D σ H := by
  refine src _ fun p H1 s1 hp => ⟨p, rfl, ⟨_, hp⟩, ?_⟩
  have w : Walk (Itl K p) l.length (fun H => SqL K H p (l.map it)) (YAt (l.map it)) := by
    have w := walk_list (K := K) (a := p) (xs := l.map it)
    rw [List.length_map] at w
    exact w
  refine for_it w (Pv p) (h0 p H1 s1 hp) (hG p) (fun i x σ' H2 H3 hi p1 y => ?_) (hd p)
  obtain ⟨rfl, hx⟩ := y
  obtain ⟨a, ha⟩ : ∃ a, l[i]? = some a := ⟨l[i], by simp [hi]⟩
  have e : x = it a := by
    rw [List.getElem?_map, ha] at hx
    exact (Option.some.inj hx).symm
  subst e
  exact hs p i a σ' _ ha p1
/-- for over range(n) -/
theorem forR {n : Int} {ta : TA} {g : TG} {tb : TS} {D : Ends} {σ : L2.St} {H : Hp} (src : ∀ R : List V → Hp → Prop, R [.int n] H → ta σ H R) (hn : n < 100000)
    (Pv : Nat → L2.St → Hp → Prop) (h0 : Pv 0 σ H)
    (hs : ∀ (i : Nat) σ' H', (i : Int) < n → Pv i σ' H' → g (.int i) σ' H' fun σ2 H2 => tb { D with nx := Pv (i + 1), ct := Pv (i + 1), bk := D.nx } σ2 H2)
    (hd : ∀ σ' H', Pv n.toNat σ' H' → D.nx σ' H') (hl : -100000 < n := by omega) : tFor (iRng1 ta) g tb D σ H := by
  refine src _ ⟨n, rfl, by omega, by omega, for_it walk_range Pv h0 (fun _ _ _ _ _ => trivial) (fun i x σ' H2 H3 hi p1 y => ?_) hd⟩
  obtain ⟨rfl, rfl⟩ := y
  have q := hs i σ' H3 (by omega) p1
  have z : (0 : Int) + ((i : Nat) : Int) = (i : Int) := by omega
  dsimp only
  rw [z]
  exact q
theorem lkA {te : TE} {i : Nat} {D : Ends} {σ : L2.St} {H : Hp} (h : tLockE te σ H fun x H1 => D.nx (σ.set i (some x)) H1) : tLock (tAsg te (gName i)) D σ H := h
end Vw
namespace Vw
open PySem PySem.Spec PyProof.Rows L2 HotX
/-! ### lists walked while an exception is handled -/
section
variable {prog : Program} {w : World} {A : Around} {E : Value → Shared → Prop} {s : Shared}
theorem list_end_hot {it l x1 : Addr} {i : Nat} {items : Array Value} {Q : Option Value → Shared → Prop} (hot : HotAt A x1 s.heap) (hne : x1 ≠ it) (hit : s.heap.IsListIter it l i) (hl : s.heap.IsList l items) (hx : items[i]? = none)
    (hQ : ∀ h', (∀ b o, b ≠ it → s.heap.get? b = some o → h'.get? b = some o) → Q none { s with heap := h' }) : wpAny (model prog w) A (pyNext (.ref it)) Q E s := by
  have ty := hit.typeIs
  obtain ⟨oi, gi, ci, di⟩ := hit
  obtain ⟨ol, gl, cl, n, dl⟩ := hl
  obtain ⟨hh, o1, v1, g1, d1, c1⟩ := hot
  unfold pyNext
  refine wpAny_bind (wpAny_attempt (wpAny_callSpecial?_slot (name := Str.ofString "__next__") ty slot_listiter_next (wpAny_call_entry slot_listiter_next ty entry_listiter_next ?_ (args_listiter_next _))))
  show wpAny (model prog w) _ (field (Value.ref it) 0 >>= _) _ _ _
  refine wpAny_bind (wpAny_field gi di (x := Value.ref l) rfl ?_)
  have nn : ¬ ((Value.ref l == Value.none) = true) := by
    intro z
    exact Bool.noConfusion z
  show wpAny (model prog w) _ (ite ((Value.ref l == Value.none) = true) _ _) _ _ _
  rw [if_neg nn]
  show wpAny (model prog w) _ (field (Value.ref it) 1 >>= _) _ _ _
  refine wpAny_bind (wpAny_field gi di (x := Value.int i 0) rfl ?_)
  show wpAny (model prog w) _ (seqItems? (Value.ref l) >>= _) _ _ _
  refine wpAny_bind (wpAny_seqItems gl dl ?_)
  simp only [hx, Int.toNat_natCast]
  refine wpAny_bind (wpAny_rule (wpAny_bind (wpAny_setField gi di (by simp) ?_)))
  show wpAny (model prog w) _ (newExc (Value.type "StopIteration") [] >>= _) _ _ _
  refine wpAny_bind ?_
  simp only [newTuple, newExc]
  refine wpAny_bind (wpAny_newObj_type (hd := by size_fits) ?_)
  refine wpAny_bind (m := firstArgMember _ _) (wpAny_of_eq (a := Value.none) (by first | rfl | (simp only [firstArgMember]; rfl)) (wpAny_newObj_type (hd := by size_fits) ?_))
  have g1' : (s.heap.update it (Obj.mapFields (·.setIfInBounds 0 Value.none))).get? x1 = some o1 := (Heap.get?_update_other _ _ (Ne.symm hne)).trans g1
  refine raiseNew_hot ⟨hh, o1, v1, Heap.get?_push_of_some _ (Heap.get?_push_of_some _ g1'), d1, c1⟩ (Nat.ne_of_lt (Heap.lt_size (Heap.get?_push_of_some _ g1'))) (Heap.get?_push_size _ rfl) rfl (by first | (simp; done) | (simp; omega)) ?_
  refine wpAny_bind (wpAny_isInstance (T := "StopIteration") (b := true) ⟨_, Heap.get?_update_self _ (Heap.get?_push_size _ rfl) rfl, rfl⟩ isSubtype_stop (wpAny_pure (hQ _ fun b o hb e => ?_)))
  have e' : (s.heap.update it (Obj.mapFields (·.setIfInBounds 0 Value.none))).get? b = some o := (Heap.get?_update_other _ _ (Ne.symm hb)).trans e
  exact (Heap.get?_update_other _ _ (Nat.ne_of_gt (Heap.lt_size (Heap.get?_push_of_some _ e')))).trans (Heap.get?_push_of_some _ (Heap.get?_push_of_some _ e'))
end
/-- the walk over a list, the handled exception at x1 beside it -/
theorem walks_hot {prog : Program} {w : World} {A : Around} {x1 : Addr} {o1 : Obj} {v1 : Array Value} (hh : A.handled = some (.ref x1)) (d1 : o1.data = .fields v1) (c1 : v1[2]? = some .none) (I ax : Addr) (hne : ax ≠ I) (hx : x1 ≠ I) (items : Array Value) :
    Walks prog w A I [I, ax, x1] [I] items.size (fun i v => items[i]? = some v) (fun i h => h.IsListIter I ax i ∧ h.IsList ax items ∧ h.get? x1 = some o1) where
  sub := fun b hb => by
    have e : b = I := by simpa using hb
    simp [e]
  frame := fun i h h' st k => ⟨st.1.at fun o e => k I (by simp) o e, st.2.1.at fun o e => k ax (by simp) o e, k x1 (by simp) o1 st.2.2⟩
  item := fun i s Q E hi st hQ => by
    have hg : items[i]? = some items[i] := by simp [hi]
    refine wpAny_pyNext_list_item st.1 st.2.1 (x := items[i]) hg fun h' it' sb => ?_
    exact hQ _ h' s.toks hg ⟨it', st.2.1.extBut sb.extBut hne, sb.extBut x1 o1 hx st.2.2⟩ fun b o hb e => sb.extBut b o (fun z => hb (by simp [z])) e
  done := fun s Q E st hQ => list_end_hot ⟨hh, o1, v1, st.2.2, d1, c1⟩ hx st.1 st.2.1 (by simp) fun h' k => hQ h' s.toks fun b o hb e => k b o (fun z => hb (by simp [z])) e
  self := fun i s Q E st hQ => wpAny_pyIter_listiter st.1 hQ
/-- its iterator, new -/
theorem iter_hot {prog : Program} {w : World} {A : Around} {E : Value → Shared → Prop} {s : Shared} {l x1 : Addr} {items : Array Value} {o1 : Obj} {Q : Value → Shared → Prop} (hl : s.heap.IsList l items) (g1 : s.heap.get? x1 = some o1)
    (h : ∀ s2 : Shared, s2 = { s with heap := s.heap.push { cls := .type "list_iterator", data := .fields #[.ref l, .int 0 0] } } → (s2.heap.IsListIter s.heap.objs.size l 0 ∧ s2.heap.IsList l items ∧ s2.heap.get? x1 = some o1) →
      (∀ b ∈ [s.heap.objs.size, l, x1], b < s2.heap.objs.size) → l ≠ s.heap.objs.size → x1 ≠ s.heap.objs.size → Q (.ref s.heap.objs.size) s2) : wpAny (model prog w) A (pyIter (.ref l)) Q E s := by
  have l1 : l < s.heap.objs.size := by
    obtain ⟨_, e, _⟩ := id hl
    exact Heap.lt_size e
  have l2 : x1 < s.heap.objs.size := Heap.lt_size g1
  refine wpAny_pyIter_list hl (h _ rfl ⟨⟨_, Heap.get?_push_size _ rfl, rfl, rfl⟩, hl.push _, Heap.get?_push_of_some _ g1⟩ (fun b hb => ?_) (Nat.ne_of_lt l1) (Nat.ne_of_lt l2))
  have e : b = s.heap.objs.size ∨ b = l ∨ b = x1 := by simpa using hb
  show b < (s.heap.push _).objs.size
  rw [Heap.size_push]
  rcases e with e | e | e
  · rw [e]
    exact Nat.lt_succ_self _
  · rw [e]
    exact Nat.lt_succ_of_lt l1
  · rw [e]
    exact Nat.lt_succ_of_lt l2
/-- sum of a list of ints, while an exception is handled -/
theorem sum_hot {prog : Program} {w : World} {A : Around} {E : Value → Shared → Prop} {s : Shared} {a x1 : Addr} {its : List Value} {ns : List Int} {o1 : Obj} {v1 : Array Value} {Q : Value → Shared → Prop} (hh : A.handled = some (.ref x1)) (g1 : s.heap.get? x1 = some o1)
    (d1 : o1.data = .fields v1) (c1 : v1[2]? = some .none) (hl : s.heap.IsList a its.toArray) (hi : IntsAre its ns) (h : ∀ h' tk t', (∀ b o, s.heap.get? b = some o → h'.get? b = some o) → Q (.int ns.sum t') { s with heap := h', toks := tk }) :
    wpAny (model prog w) A (call (.builtin "sum") [.ref a]) Q E s := by
  obtain ⟨xs, e⟩ := hi.allInts.items
  have en := hi.numsOf
  rw [show its = its.toArray.toList from rfl, e, nums_intItems] at en
  rw [e] at hl
  refine call_sum_walkG (iter_hot hl g1 fun s2 e2 st lt n1 n2 => ?_)
  subst e2
  refine ⟨_, _, _, _, _, _, numAt xs, rfl, walks_hot (A := A.in1) hh d1 c1 _ a n1 n2 (intItems xs), st, lt, fun i v => intItems_at, fun h' tk t' k => ?_⟩
  have es : preSum (numAt xs) (intItems xs).size = ns.sum := by
    rw [preSum_eq, List.take_of_length_le (by simp [intItems]), en]
  rw [es]
  exact h h' tk t' fun b o e => k b o (fun z => Nat.lt_irrefl _ (Nat.lt_of_lt_of_eq (Heap.lt_size e) (List.mem_singleton.mp z).symm)) (Heap.get?_push_of_some _ e)
section
variable {X : Cx}
/-- sum([int(x) for x in flags]), while an exception is handled -/
def n01 (b : Bool) : Int := if b = true then 1 else 0
def tSumF (K : PySem.W.Frag) (ta : TE) : TE := fun σ H Q => ta σ H fun v H1 => ∃ (a : Addr) (bs : List Bool), v = .ref a ∧ SqL K H1 a (bs.map .bl) ∧ Q (.int (bs.map n01).sum) H1
theorem paired_flags : ∀ {bs : List Bool} {us ys : List Value}, Vals (bs.map V.bl) us → Paired (fun (u y : Value) => ∃ b t, u = Value.bool b ∧ y = Value.int (n01 b) t) us ys → Vals ((bs.map n01).map V.int) ys
  | [], _, _, .nil, .nil => .nil
  | b :: bs, _, _, .cons r rs, .cons f fs => by
    obtain ⟨c, t, e1, e2⟩ := f
    have r : _ = Value.bool b := r
    rw [e1] at r
    cases r
    exact .cons ⟨t, e2⟩ (paired_flags rs fs)
theorem pe_sumflags {x : Str} {iter : Expr} {ta : TE} {q0 pos0 q px px2 cp pos : Pos} {scope : Scope} (c : L2H.HotC X) (hi : PE X iter ta) (hsum : X.mg "sum" = none) (hm : X.mg "int" = none) (hg : Gl X "sum")
    (hfree : ∀ y ∈ scope.names, y.2 ≠ .free) (hcell : ∀ y ∈ scope.names, y.2 ≠ .cell) (hkind : scope.kind = .function) (hnames : ∀ y ∈ scope.names, y.2 = .local → scope.names.lookup y.1 = some .local) (hx : scope.names.lookup x = some .local)
    (hgl : (relabel scope X.env).names.lookup ("int" : Str) = some NameKind.globalImplicit) (hd : (x == ("__debug__" : Str)) = false := by decide) (hs : ∀ x, foldedSetIterable iter X.env x = pure x := by intro _; rfl) :
    PE X (.Call (.Name "sum" q0) [.ListComp (.Call (.Name "int" q) [.Name x px2] [] cp) [⟨.Name x px, iter, [], 0⟩] scope pos] [] pos0) (tSumF X.K ta) := by
  refine ⟨fun pins s σ H Q I h => ?_⟩
  obtain ⟨p, ⟨hh, v1, d1, c1⟩, hp⟩ := c
  refine wpAny_Call_Name_kw (ld_blt I hg hsum (by decide +kernel : bootBuiltins "sum" = some (.builtin "sum")) (PyProof.Rows.callWith_builtin1 (Calls.spliced_cons ?_) rfl rfl))
  refine wpAny_ListComp_free (fun _ => true) (fun u y => ∃ b t, u = Value.bool b ∧ y = Value.int (n01 b) t) (closure_ok fun y hy e => absurd e (hfree y hy)) hcell hkind hnames hx (thn (hi.run pins s σ H _ I h) fun u s1 h1 => ?_) hs
  obtain ⟨v, H1, I1, r, a, bs, rfl, hq, q1⟩ := h1
  obtain rfl : u = Value.ref a := r
  obtain ⟨its, rv, hl, hz⟩ := I1.list hq
  have g1 := (I1.pin p (List.mem_append_left _ hp)).1
  refine iter_hot hl.isList g1 fun s2 e2 st lt n1 n2 => ?_
  subst e2
  have len := rv.length
  rw [List.length_map] at len hz
  have old : ∀ {h' : Heap}, (∀ b o, b ∉ [s1.heap.objs.size] → (s1.heap.push { cls := .type "list_iterator", data := .fields #[.ref a, .int 0 0] }).get? b = some o → h'.get? b = some o) → ∀ b o, s1.heap.get? b = some o → h'.get? b = some o := fun k b o e =>
    k b o (fun z => Nat.lt_irrefl _ (Nat.lt_of_lt_of_eq (Heap.lt_size e) (List.mem_singleton.mp z).symm)) (Heap.get?_push_of_some _ e)
  refine ⟨_, _, _, _, _, _, rfl, walks_hot hh d1 c1 _ a n1 n2 its.toArray, by simp; omega, st, lt, ⟨fun C i v s3 m3 E' _ _ _ _ _ _ => ?_, fun C i v s3 m3 E' _ hP _ hn hv k _ => ?_⟩, fun D h' tk ys vs hD hL hPl hlen hP hF k => ?_⟩
  · exact wpAny_pure ⟨rfl, s3.heap, s3.toks, rfl, fun _ _ e => e⟩
  · obtain ⟨b, hb⟩ : ∃ b, v = Value.bool b := by
      have hP : its.toArray[i]? = some v := hP
      rw [List.getElem?_toArray] at hP
      obtain ⟨hi, e⟩ := List.getElem?_eq_some_iff.mp hP
      have hi' : i < bs.length := by omega
      obtain ⟨u, eu, ru⟩ := Vals.get rv (i := i) (x := V.bl bs[i]) (by rw [List.getElem?_map, List.getElem?_eq_getElem hi']; rfl)
      rw [hP] at eu
      cases eu
      exact ⟨_, ru⟩
    subst hb
    have ks := old k
    have kb : ∀ b o, X.base.get? b = some o → s3.heap.get? b = some o := fun b o e => ks b o (I1.bk b o e)
    obtain ⟨mb, b1, b2⟩ := I1.mod.blt
    have hkd : (compEnvC scope (cloFrom X.env.cells scope.names []) C X.env).scope.kind = .function := hkind
    refine Call_ (Calls.Name_function_global hkd hgl (Calls.loadGlobal_builtin (mg := X.mg) (mb := mb) (by show s3.heap.Ns X.env.globals _; rw [I1.ok.glob]; exact I1.mod.glob.keeps kb) hm (by show s3.heap.Ns X.env.builtins _; rw [I1.ok.blt]; exact b1.keeps kb)
      ((b2 "int" (by decide)).trans (by decide +kernel : bootBuiltins "int" = some (.type "int"))) (PyProof.Rows.callWith_type1 ?_ rfl rfl)) (by decide))
    refine Calls.spliced_cons (wpAny_Name (wpAny_loadName_local hkd (lookup_relabel_local hx) hn hv (Calls.spliced_nil (call_int_bool ?_))) hd)
    exact ⟨⟨b, s3.toks, rfl, rfl⟩, s3.heap, _, rfl, fun _ _ e => e⟩
  · have ks := old k
    have hF : Paired (fun u y => ∃ b t, u = Value.bool b ∧ y = Value.int (n01 b) t) (vs.filter fun _ => true) ys.toList := hF
    have ev : vs = its := by
      refine List.ext_getElem? fun j => ?_
      by_cases hj : j < vs.length
      · have e := hP j vs[j] (by simp [hj])
        rw [List.getElem?_toArray] at e
        rw [e]
        simp [hj]
      · rw [List.getElem?_eq_none (by omega), List.getElem?_eq_none (by simp at hlen; omega)]
    have e1 : vs.filter (fun _ => true) = vs := by simp
    rw [e1, ev] at hF
    have rel := paired_flags rv hF
    refine Calls.spliced_nil (sum_hot hh (ks _ _ g1) d1 c1 (its := ys.toList) (by simpa using hL) rel.ints fun h2 tk2 t2 k2 => ?_)
    exact ⟨.int _, H1, I1.kept (h' := h2) (t' := tk2) fun b o e => k2 b o (ks b o e), ⟨_, rfl⟩, q1⟩
end
end Vw
namespace Vw
open PySem PySem.Spec PyProof.Rows L2 HotX
/-! ### a def called in an except suite with the handled exception as an argument -/
section
variable {P : Program} {w : World} {K : PySem.W.Frag} {mg : Str → Option Value} {base : Heap}
theorem hot_run {CX : CXT} {x qual : Str} {st : Stmt} {f : Addr} {N ps : List Str} {k : Nat} {fd : FuncData} {A : Around} {outer : List Env} {s : Shared} {H : Hp} {us : List Value} {vs : List V} {Q : VK} {E : XK} {p : Addr × Obj}
    (F : FunD K x qual (defArgs st) (defBody st) (defScope st) [] [] f fd) (S : FnScope N ps (defScope st)) (hb : BindEq x qual st ps) (hr : L2H.RoomH (k + 1) A) (hp : L2H.PinOk outer H s p) (e0 : Env0 P w K mg base A outer s H) (r : Vals vs us) (hl : vs.length = ps.length)
    (body : ∀ cdv : Value, L2H.RoomH k (A.deeper (envOfC qual (defScope st) s.heap.objs.size f cdv)) → ∃ t, PSs (L2H.cxH CX P w K mg base N qual (defScope st) f cdv A outer s H E p) (defBody st) t ∧ t { nx := fun _ H' => Q .non H', rt := Q } (L2.start N vs) H) :
    codeAny (model P w) A (.call (.ref f) ⟨us, []⟩) (CR CX outer P w H s Q E) s := by
  have KX : K.In s.heap := e0.mod.kin.keeps fun b o e => (e0.bs b o e).1
  have BT := F.bindsN hb s us KX (by rw [List.append_nil, ← r.length]; exact hl)
  rw [List.append_nil] at BT
  obtain ⟨oc, od, dV, kV, doc, pm, an, cdv, ct, osl, rfl, lk, hcd, _, _⟩ := F.ex
  obtain ⟨t, ht, hq⟩ := body cdv (hr.deeper _)
  have lim := e0.mod.nolimit.keeps fun b o e => (e0.bs b o e).1
  have kinds : ∀ y ∈ ps.zip us, (defScope st).names.lookup y.1 = some .local ∨ ((defScope st).names.lookup y.1 = some .cell ∧ ((cellsFrom (s.heap.objs.size + 1) (defScope st).names []).lookup y.1).isSome = true) := fun y hy =>
    (S.par y.1 (List.of_mem_zip (a := y.1) (b := y.2) hy).1).elim .inl fun c => .inr ⟨c, PySem.W.cellsFrom_some _ _ _ (.inl c)⟩
  refine codeAny_call_function hr.depth (KX _ _ lk) rfl S.co S.gen rfl (PySem.W.codeRec_of KX hcd) (BT _ _ _ _ (wpAny_newFunctionEnv_cells S.kind kinds fun env he s1 x1 => ?_))
  subst he
  refine ⟨lim.keeps x1.toInCall.keep, codeAny_func (wpAny_mono (ht.run [] s1 (L2.start N vs) H _ (L2H.inv_startH S hp e0 hl r x1) hq) (fun fl s' h' => ?_) fun _ _ z => z)⟩
  cases fl with
  | brk => exact h'.elim fun _ z => z.elim fun _ z => False.elim z.2
  | cont => exact h'.elim fun _ z => z.elim fun _ z => False.elim z.2
  | next =>
    obtain ⟨σ', H', J, z⟩ := h'
    exact ⟨V.non, H', J.os, J.bare, J.base, J.hok, rfl, z⟩
  | ret u =>
    obtain ⟨v, σ', H', J, rv, z⟩ := h'
    exact ⟨v, H', J.os, J.bare, J.base, J.hok, rv, z⟩
/-- x(e), e the handled exception at slot i; what it promises is told by sp -/
def HotSp := Addr × Obj → Hp → VK → Prop
def HotFn (P : Program) (w : World) (K : PySem.W.Frag) (mg : Str → Option Value) (base : Heap) (k : Nat) (f : Addr) (sp : HotSp) : Prop :=
  ∀ (A : Around) (outer : List Env) (s : Shared) (H : Hp) (Q : VK) (p : Addr × Obj), L2H.RoomH k A → L2H.Hot1 A p → L2H.PinOk outer H s p → Env0 P w K mg base A outer s H → sp p H Q → codeAny (model P w) A (.call (.ref f) ⟨[.ref p.1], []⟩) (CR (L2N.CX P w) outer P w H s Q E0) s
theorem pe_hot {X : Cx} {f : Addr} {x y : Str} {k i : Nat} {sp : HotSp} {p : Addr × Obj} {q q2 pos : Pos} (F : HotFn X.prog X.w X.K X.mg X.base k f sp) (hr : L2H.RoomH k X.A) (hot : L2H.Hot1 X.A p) (hp : p ∈ X.pn) (hm : X.mg x = some (.ref f)) (hk : PySem.W.keepIn X.K (.ref f) = true) (hN : X.N[i]? = some y) (hv : Vis X.env.scope y)
    (hg : Gl X x := by rfl) (hdb : (x == ("__debug__" : Str)) = false := by decide) (hd : (y == ("__debug__" : Str)) = false := by decide) (hcd : (y == ("__classdict__" : Str)) = false := by decide) :
    PE X (.Call (.Name x q) [.Name y q2] [] pos) (fun σ H Q => σ[i]? = some (some (.ref p.1)) ∧ sp p H Q) := by
  refine ⟨fun pins s σ H Q I h => ?_⟩
  obtain ⟨hi, h⟩ := h
  have ha : PA X [.Name y q2] (tCons (tVar i) tNil) := pa_cons (pe_var hN hv hd hcd) pa_nil
  refine wpAny_Call_Name_kw (ld_glob I hg hm (PySem.W.callWith_K (h₀ := X.base) I.ok.mod.kin hk (thn (ha.run pos pins s σ H (fun vs H1 => vs = [.ref p.1] ∧ H1 = H) I ⟨_, hi, rfl, rfl⟩) fun us s1 h1 => ?_) rfl rfl) hdb)
  obtain ⟨vs, H1, I1, r, rfl, rfl⟩ := h1
  refine ⟨I1.kIn, ?_⟩
  cases r with
  | cons r1 r2 =>
    cases r2
    cases r1
    have pn := I1.pin p (List.mem_append_left _ hp)
    have po : L2H.PinOk X.stack H1 s1 p := ⟨pn.1, pn.2.1, fun z => (List.mem_cons.mp (I1.stkSub p.1 z)).elim pn.2.2.1 pn.2.2.2.1, pn.2.2.2.2⟩
    refine wpAny_call (codeAny_mono (F X.A X.stack s1 H1 Q p hr hot po I1.env0 h) fun res s2 hq => ?_)
    match res, hq with
    | .ok (.ret u), hq => exact I1.after hq
    | .error e, hq => exact passF pins σ H1 s1 e s2 I1 hq
/-- isinstance(e, c), e the exception at the pin -/
theorem cr_isP {X : Cx} {D : Addr} {p : Addr × Obj} (C : ExcC X.K D) (hp : p ∈ X.pn) (h1 : p.2.cls = .ref D) (h2 : p.2.dict = none) (hf : ∃ vs, p.2.data = .fields vs) : CallR X (.builtin "isinstance") (rIsE X.K D p.1) := by
  intro pins s σ H xs us Q I r h
  obtain ⟨c, cv, b, rfl, hc, e, q⟩ := h
  match us, r with
  | [_, u2], .cons r1 (.cons r2 .nil) =>
    obtain rfl := hc _ r2
    obtain rfl : _ = Value.ref p.1 := r1
    have get := (I.pin p (List.mem_append_left _ hp)).1
    obtain ⟨vs, hd⟩ := hf
    have J : PySem.W.InstAt s.heap p.1 p.2 D none := by
      generalize p.2 = o at *
      cases o
      dsimp only at h1 h2 hd
      subst h1 h2 hd
      exact ⟨get, rfl, rfl, trivial⟩
    exact PySem.W.kia_one (PySem.W.handS_kitx_exc C.hg C.hk C.hs C.hd C.ha C.hn C.ht C.hm) I.kIn J e (fun z => nomatch z) fun tk => ⟨.bl b, H, I.kept (t' := tk) fun _ _ z => z, rfl, q⟩
end
end Vw
namespace Vw
open PySem PySem.Spec PyProof.Rows L2 HotX
/-! ### lambdas without parameters; exceptions whose context is None -/
def lamN (X : Cx) (A : Around) (outer : List Env) (s : Shared) (H : Hp) (E : XK) (scope : Scope) (f c : Addr) : Cx :=
  (LamX.lamCx X A outer s H E scope f c).tr [] fun e s' => wpAny (model X.prog X.w) (LamX.lamCx X A outer s H E scope f c).A (leaving (LamX.lamCx X A outer s H E scope f c).env e) (fun _ => L2N.CX X.prog X.w outer H s E e) (L2N.CX X.prog X.w outer H s E) s'
section
variable {X : Cx}
theorem takesL {A : Around} {outer : List Env} {s : Shared} {H : Hp} {E : XK} {scope : Scope} {f c : Addr} : L2N.Takes (lamN X A outer s H E scope f c) (fun cls d _ H' => E cls d H') := L2N.takes_of rfl rfl rfl rfl
theorem passL {A : Around} {outer : List Env} {s : Shared} {H : Hp} {E : XK} {scope : Scope} {f c : Addr} : Passes (L2N.CX (lamN X A outer s H E scope f c).prog (lamN X A outer s H E scope f c).w) (lamN X A outer s H E scope f c) E := L2N.passes_call takesL fun _ _ _ _ h => h
abbrev lamQ (X : Cx) : Str := X.env.qual ++ "<lambda>"
abbrev lamObj (X : Cx) (params : Arguments) (body : Expr) (scope : Scope) (pm ctv : Value) (c : Addr) : Obj := PySem.W.kla_obj "<lambda>" (lamQ X) params body scope (cloFrom X.env.cells scope.names []) pm c ctv
/-- the lambda called, in the def that got it -/
theorem act_n {CXg : CXT} {Eg E : XK} {Ng : List Str} {qg a : Str} {sg scope : Scope} {g f c : Addr} {cdg pm ctv : Value} {params : Arguments} {body : Expr} {k i : Nat} {pn pins : List (Addr × Obj)} {xe : Value → Shared → Prop} {W : WX} {tb : TE} {p1 p2 : Pos} {σ : L2.St} {H : Hp} {s : Shared}
    (I : Inv X pins σ H s) (L : LamX.LamS X.env.scope scope) (hf : s.heap.get? f = some (lamObj X params body scope pm ctv c)) (hfn : H f = none) (hfr : f ∉ frs X.stack)
    (hbind : bindArgs (PySem.W.kla_fn "<lambda>" (lamQ X) params body scope (cloFrom X.env.cells scope.names []) pm (.ref c) ctv) ⟨[], []⟩ = pure [])
    (tk : L2N.Takes ((cxOf CXg X.prog X.w X.K X.mg X.base Ng qg sg g cdg X.A X.stack s H Eg).tr pn xe) W) (hW : ∀ cls d σ' H', E cls d H' → W cls d σ' H') (hr : Room (k + 1) (X.A.deeper (envOfC qg sg s.heap.objs.size g cdg)))
    (hbody : ∀ (A : Around) (outer : List Env) (s : Shared) (H : Hp), Room k (A.deeper (LamX.lamEnv X scope s.heap.objs.size f c)) → PE (lamN X A outer s H E scope f c) body tb)
    (hN : Ng[i]? = some a) (hv : Vis sg a) (hd : (a == ("__debug__" : Str)) = false) (hcd : (a == ("__classdict__" : Str)) = false) :
    PE ((cxOf CXg X.prog X.w X.K X.mg X.base Ng qg sg g cdg X.A X.stack s H Eg).tr pn xe) (.Call (.Name a p1) [] [] p2) (fun σZ HZ Q => σZ[i]? = some (some (.ref f)) ∧ HZ c = some (LamX.CodeO c (lamQ X)) ∧ tb σ HZ Q) := by
  refine ⟨fun pinsZ sZ σZ HZ Q IZ h => ?_⟩
  have var := (pe_var (X := (cxOf CXg X.prog X.w X.K X.mg X.base Ng qg sg g cdg X.A X.stack s H Eg).tr pn xe) (pos := p1) (i := i) hN hv hd hcd).run pinsZ sZ σZ HZ (fun v H1 => v = .ref f ∧ H1 = HZ) IZ ⟨_, h.1, rfl, rfl⟩
  refine wpAny_Call_Name_kw (thn var fun u s1 h1 => ?_)
  obtain ⟨v, H1, I1, r1, rfl, rfl⟩ := h1
  obtain rfl : u = Value.ref f := r1
  have obj : s1.heap.get? f = some (lamObj X params body scope pm ctv c) := I1.base.keep f _ hf hfn hfr (by intro z; cases z)
  have un : Un (frs X.stack) [] H H1 s.heap s1.heap := I1.base
  obtain ⟨⟨oc, vs, t, hoc, hdc, hvc⟩, _⟩ := I1.hok c _ h.2.1
  have go : codeAny (model X.prog X.w) (X.A.deeper (envOfC qg sg s.heap.objs.size g cdg)) (.call (.ref f) ⟨[], []⟩) (CR (L2N.CX X.prog X.w) (envOfC qg sg s.heap.objs.size g cdg :: X.stack) X.prog X.w H1 s1 Q E) s1 := by
    refine PySem.W.kla_callFunE hr.depth obj rfl L.co L.gen rfl ⟨c, oc, vs, t, rfl, hoc, hdc, hvc⟩ ?_
    rw [hbind]
    refine wpAny_pure (wpAny_newFunctionEnv (fun y hy => (L.own y hy).2) (fun y hy => nomatch hy) (fun h2 ns sb => ⟨I1.nolimit.fresh _ sb, ?_⟩) L.kind)
    have kp : ∀ b o, s1.heap.get? b = some o → h2.get? b = some o := fun b o e => sb.extBut b o (Nat.ne_of_lt (Heap.lt_size e)) (Heap.get?_push_of_some _ e)
    have J := LamX.lam_start2 (f := f) (c' := c) (E := E) (tk := s1.toks + ([] : List (Str × Value)).length) I L I1.env0 hr.hd un ns kp
    refine PySem.W.kla_codeExpr (wpAny_mono ((hbody _ _ s1 H1 (hr.deeper _)).run [] _ σ H1 Q (J.toTry _) h.2.2) (fun v s' hq => ?_) fun _ _ z => z)
    obtain ⟨x, H', J', rv, q⟩ := hq
    exact ⟨x, H', J'.os, J'.bare, J'.base, J'.hok, rv, q⟩
  refine PySem.W.callWith_F0 ⟨_, _, _, _, obj⟩ (wpAny_call (codeAny_mono go fun res s' hq => ?_))
  match res, hq with
  | .ok (.ret u), hq => exact I1.after hq
  | .error e, hq => exact L2N.passes_call tk hW pinsZ σZ H1 s1 e s' I1 hq
theorem takes_len {W : WX} (tk : L2N.Takes X W) : L2N.Takes X (fun cls d σ H => σ.length = X.N.length → W cls d σ H) := fun u s' x => by
  obtain ⟨a, B, sI, pins, σ, H, cls, d, e, I, nb, up, sky, na, os, ag, z⟩ := x
  exact tk u s' ⟨a, B, sI, pins, σ, H, cls, d, e, I, nb, up, sky, na, os, ag, z I.len⟩
theorem pss_imp {ss : List Stmt} {t t' : TS} (h : PSs X ss t) (i : ∀ D σ H, t' D σ H → t D σ H) : PSs X ss t' := ⟨fun pins s σ H D I q => h.run pins s σ H D I (i D σ H q)⟩
theorem cxH_K {CX : CXT} {P : Program} {w : World} {K : PySem.W.Frag} {mg : Str → Option Value} {base : Heap} {N : List Str} {qual : Str} {sc : Scope} {f : Addr} {cd : Value} {A : Around} {outer : List Env} {s : Shared} {H : Hp} {E : XK} {p : Addr × Obj} :
    (L2H.cxH CX P w K mg base N qual sc f cd A outer s H E p).K = K := rfl
/-- what a refusal of the class x is told as -/
def Refu (x : Str) (H : Hp) (Q : VK) : Prop := ∀ r H', H r = none → Same H H' → H' r = some (.tup [.str "refused", .str x]) → Q (.ref r) H'
def spWord (K : PySem.W.Frag) (cs : List Str) : HotSp := fun p H Q => ∃ x ∈ cs, p.2.cls = .ref (He.ga K x) ∧ p.2.dict = none ∧ (∃ vs, p.2.data = .fields vs) ∧ Refu x H Q
def eTold (K : PySem.W.Frag) (cs : List Str) (Q : VK) : XK := fun cls d H => ∃ x ∈ cs, cls = .ref (He.ga K x) ∧ d = none ∧ Refu x H Q
def tTold (K : PySem.W.Frag) (cs : List Str) (T : List (Addr × Str)) (t : XK → TE) : TE := fun σ H Q => LamX.Tabs T H ∧ ∀ H1, LamX.ExtN H H1 → LamX.Tabs T H1 → t (eTold K cs Q) σ H1 Q
/-- told(lambda: body); told: try: return a() / except WoodError as e: return word(e) -/
theorem pe_told {T : List (Addr × Str)} {cs : List Str} {x a n wd we : Str} {st : Stmt} {g fw c P : Addr} {fd : FuncData} {k : Nat} {Ng : List Str} {params : Arguments} {body : Expr} {scope : Scope} {t : XK → TE} {p lpos pos p1 p2 p3 p4 p5 p6 p7 p8 p9 : Pos}
    (F : FunD X.K x x (defArgs st) (defBody st) (defScope st) [] [] g fd) (Sg : FnScope Ng [a] (defScope st)) (hb : BindEq x x st [a])
    (hbd : defBody st = [.Try [.Return (some (.Call (.Name a p1) [] [] p2)) p3] [.ExceptHandler (some (.Name we p4)) (some n) [.Return (some (.Call (.Name wd p5) [.Name n p6] [] p7)) p8] p9] [] [] p])
    (hm : X.mg x = some (.ref g)) (hwe : X.mg we = some (.ref (He.ga X.K "WoodError"))) (hwd : X.mg wd = some (.ref fw)) (hkw : PySem.W.keepIn X.K (.ref fw) = true) (Fw : HotFn X.prog X.w X.K X.mg X.base 2 fw (spWord X.K cs)) (hcs : ∀ x ∈ cs, PySem.W.exmOne X.K (.ref (He.ga X.K x)) (.ref (He.ga X.K "WoodError")) = some true)
    (hN0 : Ng[0]? = some a) (hva : Vis (defScope st) a) (hN1 : Ng[1]? = some n) (hvn : (defScope st).names.lookup n = some .local) (hgwe : (defScope st).names.lookup we = some .globalImplicit) (hgwd : (defScope st).names.lookup wd = some .globalImplicit) (hst : ∀ f : Addr, L2.start Ng [V.ref f] = [some (.ref f), none])
    (TB : LamX.TabB X.base X.mg c P) (hcode : X.env.code = .ref c) (hmT : (P, lamQ X) ∈ T) (hu : ∀ p ∈ T, p.1 = P → p.2 = lamQ X) (hr : Room (k + 4) X.A) (L : LamX.LamS X.env.scope scope) (hdef : defaultsOf params X.env = ([], []))
    (hbind : ∀ (q : Str) (cl : List (Str × Addr)) (pm cv ctv : Value), bindArgs (PySem.W.kla_fn "<lambda>" q params body scope cl pm cv ctv) ⟨[], []⟩ = pure [])
    (hbody : ∀ (A : Around) (outer : List Env) (s : Shared) (H : Hp) (E : XK) (f c' : Addr), Room (k + 2) (A.deeper (LamX.lamEnv X scope s.heap.objs.size f c')) → PE (lamN X A outer s H E scope f c') body (t E))
    (hg : Gl X x := by rfl) (hdb : (x == ("__debug__" : Str)) = false := by decide) (hd : (a == ("__debug__" : Str)) = false := by decide) (hcd : (a == ("__classdict__" : Str)) = false := by decide)
    (hdw : (we == ("__debug__" : Str)) = false := by decide) (hdd : (wd == ("__debug__" : Str)) = false := by decide) (hn1 : (n == ("__debug__" : Str)) = false := by decide) (hn2 : (n == ("__classdict__" : Str)) = false := by decide) {q0 : Pos} :
    PE X (.Call (.Name x q0) [.Lambda params body scope lpos] [] pos) (tTold X.K cs T t) := by
  refine ⟨fun pins s σ H Q I h => ?_⟩
  obtain ⟨hT, h⟩ := h
  refine wpAny_Call_Name_kw (ld_glob I hg hm (PySem.W.callWith_K (h₀ := X.base) I.ok.mod.kin F.kp ?_ (by rfl) (by rfl)) hdb)
  refine Calls.spliced_cons (LamX.lam_make2 I TB hcode hmT hu hT hdef (L.has I.ok) fun f c1 pm ctv H1 s1 I1 eN T1 hf hfn hfr hco => Calls.spliced_nil ⟨I1.kIn, ?_⟩)
  have q1 := h H1 eN T1
  have BT := F.bindsN hb s1 [.ref f] I1.kIn rfl
  obtain ⟨oc, od, dV, kV, doc, pm2, an, cdv, ct, osl, rfl, lk, hcd2, _, _⟩ := F.ex
  have run : codeAny (model X.prog X.w) X.A (.call (.ref g) ⟨[.ref f], []⟩) (CR (L2N.CX X.prog X.w) X.stack X.prog X.w H1 s1 Q E0) s1 := by
    refine LamX.run_ofS (k := k + 3) (N := Ng) (ps := [a]) (us := [.ref f]) (vs := [.ref f]) lk hcd2 Sg hr I1.env0 BT (.cons rfl .nil) rfl fun hr2 => ?_
    rw [hbd]
    refine ⟨_, pss_one (L2N.ps_try_as (X := cxN X.prog X.w X.K X.mg X.base Ng x (defScope st) g cdv X.A X.stack s1 H1 E0) (c := .ref (He.ga X.K "WoodError")) (i := 1) (Wout := fun cls d _ H' => E0 cls d H')
      (tb := fun W D σZ HZ => ∃ E : XK, (∀ cls d (σ' : L2.St) H', E cls d H' → σ'.length = Ng.length → W cls d σ' H') ∧ σZ[0]? = some (some (.ref f)) ∧ HZ c1 = some (LamX.CodeO c1 (lamQ X)) ∧ t E σ HZ D.rt)
      (ts := fun a cls d D σZ HZ => σZ[1]? = some (some (.ref a)) ∧ ∃ x ∈ cs, cls = .ref (He.ga X.K x) ∧ d = none ∧ Refu x HZ D.rt)
      rfl rfl Sg.nd hN1 hvn ⟨hgwe, hdw, .inl hwe⟩ takesE (fun W pn xe tk _ => ?_) (fun ax oe cls d pn hz hfd => ?_)), ?_⟩
    · refine ⟨fun pins2 s2 σ2 H2 D I2 h2 => ?_⟩
      obtain ⟨E, hW, e1, e2, e3⟩ := h2
      exact (pss_one (ps_ret (act_n (p1 := p1) (p2 := p2) (i := 0) I1 L hf hfn hfr (hbind _ _ _ _ _) (takes_len tk) hW hr2 (fun A outer s H hr3 => hbody A outer s H E f c1 hr3) hN0 hva hd hcd))).run pins2 s2 σ2 H2 D I2 ⟨e1, e2, e3⟩
    · have ctx : ∃ vs : Array Value, oe.data = .fields vs ∧ vs[2]? = some Value.none := by
        obtain ⟨vs, e⟩ := hfd
        exact ⟨vs, e, hz.2.2 vs e⟩
      refine pss_imp (pss_one (ps_ret (pe_hot (i := 1) (p := (ax, oe)) Fw ?_ ⟨rfl, ctx⟩ List.mem_cons_self hwd hkw hN1 (.inl hvn) hgwd hdd hn1 hn2))) fun D σ2 H2 hq => ?_
      · have a1 := hr2.dp
        have a2 := hr2.un
        refine ⟨?_, ?_⟩
        · show (X.A.deeper (envOfC x (defScope st) s1.heap.objs.size g cdv)).depth + 3 * 2 + 5 < recursionLimit
          omega
        · show (X.A.deeper (envOfC x (defScope st) s1.heap.objs.size g cdv)).units + 16 * 2 + 200 < cLine
          omega
      · obtain ⟨e1, x, hx, e2, e3, e4⟩ := hq
        exact ⟨e1, x, hx, hz.1.trans e2, hz.2.1.trans e3, hfd, e4⟩
    · refine ⟨eTold X.K cs Q, fun cls d σ' H' z hlen => ?_, by rw [hst]; rfl, hco, q1⟩
      obtain ⟨x, hx, rfl, rfl, e⟩ := z
      refine ⟨true, hcs x hx, fun _ ax nax => ⟨?_, x, hx, rfl, rfl, e⟩, fun z => by cases z⟩
      have l2 : 1 < σ'.length := by
        rw [hlen]
        exact (List.getElem?_eq_some_iff.mp hN1).1
      simp [l2]
  refine wpAny_call (codeAny_mono run fun res s2 hq => ?_)
  match res, hq with
  | .ok (.ret u), hq => exact I1.after hq
  | .error e, hq => exact passF pins σ H1 s1 e s2 I1 hq
end
end Vw
namespace Vw
open PySem PySem.Spec PyProof.Rows L2
/-! ### rules that forget all of a new object but that the rest stays -/
def tMon (t : TA) : TA := fun σ H Q => ∃ R, t σ H R ∧ ∀ vs H1, R vs H1 → Q vs H1
section
variable {X : Cx} {es : List Expr} {t : TA} {e : Expr} {te te' : TE} {pos : Pos}
theorem pa_mon (h : PA X es t) : PA X es (tMon t) := ⟨fun pos pins s σ H Q I z => by
  obtain ⟨R, h1, h2⟩ := z
  exact thn (h.run pos pins s σ H R I h1) fun us s1 ⟨vs, H1, I1, r, q⟩ => ⟨vs, H1, I1, r, h2 vs H1 q⟩⟩
theorem pe_imp (h : PE X e te) (i : ∀ σ H Q, te' σ H Q → te σ H Q) : PE X e te' := ⟨fun pins s σ H Q I z => h.run pins s σ H Q I (i σ H Q z)⟩
def New (o : HO) (H : Hp) (Q : VK) : Prop := ∀ p H', H p = none → Same H H' → H' p = some o → Q (.ref p) H'
theorem New.use {o : HO} {H : Hp} {Q : VK} (h : New o H Q) : ∀ p, H p = none → Q (.ref p) (upd H p o) := fun p n => h p _ n (Same.new n) upd_same
def tTupS (t : TA) : TE := fun σ H Q => t σ H fun xs H1 => xs.length ≤ sizeLine ∧ New (.tup xs) H1 Q
def tLstS (t : TA) : TE := fun σ H Q => t σ H fun xs H1 => xs.length ≤ sizeLine ∧ New (.lst xs) H1 Q
theorem pe_tupS {x1 : Nat} (h : PA X es t) : PE X (.Tuple es x1 pos) (tTupS t) := pe_imp (pe_tup (pa_mon h)) fun σ H Q z => ⟨_, z, fun vs H1 q => ⟨q.1, q.2.use⟩⟩
theorem pe_lstS (h : PA X es t) : PE X (.List es pos) (tLstS t) := pe_imp (pe_lst (pa_mon h)) fun σ H Q z => ⟨_, z, fun vs H1 q => ⟨q.1, q.2.use⟩⟩
def tDNewKS : TE := fun _ H Q => New (.dK []) H Q
def tDNewTS : TE := fun _ H Q => New (.dT []) H Q
theorem pe_dnewKS : PE X (.Dict [] [] pos) tDNewKS := pe_imp pe_dnewK fun σ H Q z => z.use
theorem pe_dnewTS : PE X (.Dict [] [] pos) tDNewTS := pe_imp pe_dnewT fun σ H Q z => z.use
def rCatN : R2 := fun x y H Q => ∃ l b xs zs, x = .ref l ∧ y = .ref b ∧ H l = some (.lst xs) ∧ H b = some (.lst zs) ∧ xs.length + zs.length ≤ sizeLine ∧ New (.lst (xs ++ zs)) H Q
theorem op_catN : OpR X (binaryOp .Add) rCatN := fun pins s σ H x y v u Q I rx ry h => by
  obtain ⟨l, b, xs, zs, h1, h2, h3, h4, h5, h6⟩ := h
  exact op_cat pins s σ H x y v u Q I rx ry ⟨l, b, xs, zs, h1, h2, h3, h4, h5, h6.use⟩
def rSlN (K : PySem.W.Frag) : V → Option Int → Option Int → Hp → VK → Prop := fun x lo hi H Q => ∃ a xs, x = .ref a ∧ SqL K H a xs ∧ New (.lst (cutV xs lo hi)) H Q
theorem sl_listN : SlR X (rSlN X.K) := fun pins s σ H x v vl vu lo hi sl Q I rx hs pl pu h => by
  obtain ⟨a, xs, h1, h2, h3⟩ := h
  exact sl_list pins s σ H x v vl vu lo hi sl Q I rx hs pl pu ⟨a, xs, h1, h2, h3.use⟩
/-- t[lo:hi] of a tuple: new, or t itself -/
def rSlTN (K : PySem.W.Frag) : V → Option Int → Option Int → Hp → VK → Prop := fun x lo hi H Q => ∃ a xs, x = .ref a ∧ SqT K H a xs ∧ ∀ p H', Same H H' → SqT K H' p (cutV xs lo hi) → Q (.ref p) H'
theorem sl_tupN : SlR X (rSlTN X.K) := fun pins s σ H x v vl vu lo hi sl Q I rx hs pl pu h => by
  obtain ⟨a, xs, h1, h2, h3⟩ := h
  refine sl_tupA pins s σ H x v vl vu lo hi sl Q I rx hs pl pu ⟨a, xs, h1, h2, fun w => h3 a H (Same.refl _) ?_, fun w p n => h3 p _ (Same.new n) (.inl (.inl upd_same))⟩
  have e : cutV xs lo hi = xs := by
    unfold cutV
    rw [w.1, w.2]
    simp
  rw [e]
  exact h2
def rSortedN (K : PySem.W.Frag) : List V → Hp → VK → Prop := fun vs H Q => ∃ (a : Addr) (ns : List Int), vs = [V.ref a] ∧ SqL K H a (ns.map V.int) ∧ ns.length < 64 ∧ ∀ ns' : List Int, ns'.Perm ns → ns'.Pairwise (· ≤ ·) → New (.lst (ns'.map V.int)) H Q
theorem cr_sortedN : CallR X (.builtin "sorted") (rSortedN X.K) := fun pins s σ H vs us Q I r h => by
  obtain ⟨a, ns, h1, h2, h3, h4⟩ := h
  exact cr_sorted pins s σ H vs us Q I r ⟨a, ns, h1, h2, h3, fun ys p y1 y2 n => (h4 ys y1 y2).use p n⟩
def rSortedDN : List V → Hp → VK → Prop := fun xs H Q => ∃ (a : Addr) (kvs : List (Key × V)) (ks : List Int), xs = [.ref a] ∧ Rd H a (.dK kvs) ∧ kvs.map (·.1) = ks.map Sum.inl ∧ ks.length < 64 ∧ ∀ ys : List Int, ys.Perm ks → ys.Pairwise (· ≤ ·) → New (.lst (ys.map V.int)) H Q
theorem call_sortedDN (hc : X.calm = true) : CallR X (.builtin "sorted") rSortedDN := fun pins s σ H vs us Q I r h => by
  obtain ⟨a, kvs, ks, h1, h2, h3, h4, h5⟩ := h
  exact call_sortedDI hc pins s σ H vs us Q I r ⟨a, kvs, ks, h1, h2, h3, h4, fun ys p y1 y2 n => (h5 ys y1 y2).use p n⟩
end
theorem _root_.L2.Same.over {H H' : Hp} {l : Addr} {o : HO} (s : Same H H') (n : H l = none) : Same H (upd H' l o) := fun b u e => by
  rw [upd_ne (ne_of_none e n)]
  exact s b u e
theorem op_in_seqK (K : PySem.W.Frag) {X : Cx} (hK : X.K = K := by rfl) : OpR X (compareOp .In) (rIn K false) := by
  subst hK
  exact op_in_seq
theorem op_notIn_seqK (K : PySem.W.Frag) {X : Cx} (hK : X.K = K := by rfl) : OpR X (compareOp .NotIn) (rIn K true) := by
  subst hK
  exact op_notIn_seq
theorem pe_ixL (K : PySem.W.Frag) {X : Cx} {o i : Expr} {to ti : TE} {pos : Pos} (ho : PE X o to) (hi : PE X i ti) (hs : NoSl i := by exact fun _ _ => rfl) (hK : X.K = K := by rfl) : PE X (.Subscript o i pos) (tOp (rIxL K) to ti) := by
  subst hK
  exact pe_ix ix_list ho hi hs
theorem pe_ixT (K : PySem.W.Frag) {X : Cx} {o i : Expr} {to ti : TE} {pos : Pos} (ho : PE X o to) (hi : PE X i ti) (hs : NoSl i := by exact fun _ _ => rfl) (hK : X.K = K := by rfl) : PE X (.Subscript o i pos) (tOp (rIxT K) to ti) := by
  subst hK
  exact pe_ix ix_tup ho hi hs
/-! ### a def with lambdas: its code object is known -/
section
variable {P : Program} {w : World} {K : PySem.W.Frag} {mg : Str → Option Value} {base : Heap}
theorem mk_defC {x qual : Str} {st : Stmt} {N ps : List Str} {k : Nat} {sp : Sp} (F : Is K x qual st (He.ga K x)) (S : FnScope N ps (defScope st)) (hb : BindEq x qual st ps) (len : ∀ vs H Q E, sp vs H Q E → vs.length = ps.length)
    (body : ∀ (cdv : Value) (A : Around) (outer : List Env) (s : Shared) (H : Hp) (vs : List V) (Q : VK) (E : XK), cdv = .ref (He.cT K (x, none)).1 → Room k (A.deeper (envOfC qual (defScope st) s.heap.objs.size (He.ga K x) cdv)) → sp vs H Q E →
      ∃ t, PSs (cxN P w K mg base N qual (defScope st) (He.ga K x) cdv A outer s H E) (defBody st) t ∧ t { nx := fun _ H' => Q .non H', rt := Q } (L2.start N vs) H) :
    Def P w K mg base (k + 1) (He.ga K x) ps sp := by
  obtain ⟨fd, F⟩ := F
  have bn := F.bindsN hb
  have kp := F.kp
  obtain ⟨oc, od, dV, kV, doc, pm, an, cdv, ct, osl, rfl, lk, hcd, _, _⟩ := F.ex
  obtain ⟨c, rfl⟩ := He.codeIn_ref hcd
  have e : (He.cT K (x, none)).1 = c := He.codeOf_eq (p := (x, none)) lk rfl
  refine ⟨⟨_, fn_of lk hcd S len fun A outer s H vs Q E hr hsp => ?_, bn⟩, kp⟩
  exact body (.ref c) A outer s H vs Q E (by rw [e]) hr hsp
end
section
variable {P : Program} {w : World} {K : PySem.W.Frag} {mg : Str → Option Value} {base : Heap}
theorem fn_defC {x qual : Str} {st : Stmt} {N ps : List Str} {k : Nat} {sp : Sp} {fd : FuncData} (F : FunD K x qual (defArgs st) (defBody st) (defScope st) [] [] (He.ga K x) fd) (S : FnScope N ps (defScope st)) (len : ∀ vs H Q E, sp vs H Q E → vs.length = ps.length)
    (body : ∀ (cdv : Value) (A : Around) (outer : List Env) (s : Shared) (H : Hp) (vs : List V) (Q : VK) (E : XK), cdv = .ref (He.cT K (x, none)).1 → Room k (A.deeper (envOfC qual (defScope st) s.heap.objs.size (He.ga K x) cdv)) → sp vs H Q E →
      ∃ t, PSs (cxN P w K mg base N qual (defScope st) (He.ga K x) cdv A outer s H E) (defBody st) t ∧ t { nx := fun _ H' => Q .non H', rt := Q } (L2.start N vs) H) :
    FnOk P w K mg base (L2N.CX P w) (k + 1) (He.ga K x) fd ps sp := by
  obtain ⟨oc, od, dV, kV, doc, pm, an, cdv, ct, osl, rfl, lk, hcd, _, _⟩ := F.ex
  obtain ⟨c, rfl⟩ := He.codeIn_ref hcd
  have e : (He.cT K (x, none)).1 = c := He.codeOf_eq (p := (x, none)) lk rfl
  exact fn_of lk hcd S len fun A outer s H vs Q E hr hsp => body (.ref c) A outer s H vs Q E (by rw [e]) hr hsp
end
/-! ### numbers -/
theorem useI {c : Int → Int → Prop} {g : Int → Int → V} {i j : Int} {H : Hp} {Q : VK} (h : c i j) (q : Q (g i j) H) : rI c g (.int i) (.int j) H Q := ⟨i, j, rfl, rfl, h, q⟩
theorem mulx {i j : Int} {a b : Nat} (ha : i.natAbs < 2 ^ a) (hb : j.natAbs < 2 ^ b) (h : a + b ≤ 134217728) : CMulX i j := mulx_ok ha hb h
theorem abs_lt {i : Int} {n : Nat} (h0 : 0 ≤ i) (h : i < 2 ^ n) : i.natAbs < 2 ^ n := by
  have e : ((2 ^ n : Nat) : Int) = 2 ^ n := by simp
  omega
theorem atI_nn {α : Type} {xs : List α} {i : Int} (h0 : 0 ≤ i) (h1 : i < xs.length) : atI xs i = xs[i.toNat]? := by
  unfold atI ixN
  rw [if_pos h0, if_pos h1]
  rfl
def cellM (sc : List Int) (k : Int) : Int := if sc = [] then k * 7919 else (sc[(k % sc.length).toNat]?).getD 0 + k / sc.length * 104729
def bigB : Nat := 3000000
def drawM (c k : Int) : Int :=
  let a := (c * 6364136223846793005 + (k + 1) * 1442695040888963407) % 340282366920938463463374607431768211507
  let b := a * a % 340282366920938463463374607431768211297
  (b % 18446744073709551557 + 1) * (b / 18446744073709551557 + 1) * b % 340282366920938463463374607431768211507
theorem drawM_range (c k : Int) : 0 ≤ drawM c k ∧ drawM c k < 340282366920938463463374607431768211507 := by
  unfold drawM
  exact ⟨Int.emod_nonneg _ (by decide), Int.emod_lt_of_pos _ (by decide)⟩
theorem use_isP {K : PySem.W.Frag} {D a D' : Addr} {b : Bool} {H : Hp} {Q : VK} (e : PySem.W.kitOne K (.ref D) (.ref D') = some b) (q : Q (.bl b) H) : rIsE K D a [.ref a, .ref D'] H Q := ⟨.ref D', .ref D', b, rfl, fun _ r => r, e, q⟩
theorem use_isV {K : PySem.W.Frag} {D a : Addr} {t : String} {b : Bool} {H : Hp} {Q : VK} (e : PySem.W.kitOne K (.ref D) (.type t) = some b) (q : Q (.bl b) H) : rIsE K D a [.ref a, .ty t] H Q := ⟨.ty t, .type t, b, rfl, fun _ r => r, e, q⟩
def spCell (K : PySem.W.Frag) : Sp := fun vs H Q _ => ∃ (p : Addr) (sc : List Int) (k : Int), vs = [.ref p, .int k] ∧ SqL K H p (sc.map V.int) ∧ sc.length ≤ 100 ∧ 0 ≤ k ∧ k < 1000 ∧ ∀ H', Same H H' → Q (.int (cellM sc k)) H'
def spDraw : Sp := fun vs H Q _ => ∃ c k : Int, vs = [.int c, .int k] ∧ c.natAbs < 2 ^ bigB ∧ k.natAbs < 2 ^ 200 ∧ Q (.int (drawM c k)) H
def bigC : Nat := 1048577
theorem pow_sum {a b : Nat} (h30 : 30 ≤ a) (h : a + 1 ≤ b) : 2 ^ a + 2 ^ 30 ≤ 2 ^ b := by
  have x : 2 ^ 30 ≤ 2 ^ a := Nat.pow_le_pow_right (by omega) h30
  have y : 2 ^ a + 2 ^ a = 2 ^ (a + 1) := by rw [Nat.pow_succ]; omega
  have z : 2 ^ (a + 1) ≤ 2 ^ b := Nat.pow_le_pow_right (by omega) h
  omega
theorem cell_abs {sc : List Int} {k : Int} (h0 : 0 ≤ k) (h1 : k < 1000) (hs : ∀ z ∈ sc, z.natAbs < 2 ^ bigC) : (cellM sc k).natAbs < 2 ^ bigB := by
  have big : 2 ^ bigC + 2 ^ 30 ≤ 2 ^ bigB := pow_sum (by unfold bigC; omega) (by unfold bigC bigB; omega)
  have s30 : (2 : Nat) ^ 30 = 1073741824 := by decide
  generalize 2 ^ bigB = B at *
  generalize 2 ^ bigC = C at *
  unfold cellM
  split
  · omega
  · have a : ((sc[(k % sc.length).toNat]?).getD 0).natAbs < C ∨ ((sc[(k % sc.length).toNat]?).getD 0) = 0 := by
      cases q : sc[(k % sc.length).toNat]? with
      | none => exact .inr rfl
      | some z => exact .inl (hs z (List.mem_of_getElem? q))
    have d0 : 0 ≤ k / (sc.length : Int) := Int.ediv_nonneg h0 (by omega)
    have d1 : k / (sc.length : Int) ≤ k := Int.ediv_le_self _ h0
    omega
end Vw
namespace Vw
open PySem PySem.Spec PyProof.Rows L2
theorem toNat_inj {a b : Char} (h : a.toNat = b.toNat) : a = b := Char.ext (UInt32.toNat_inj.mp h)
theorem map_toNat_inj : ∀ {l m : List Char}, l.map Char.toNat = m.map Char.toNat → l = m
  | [], [], _ => rfl
  | [], _ :: _, h => by simp at h
  | _ :: _, [], h => by simp at h
  | a :: l, b :: m, h => by
    simp only [List.map_cons, List.cons.injEq] at h
    rw [toNat_inj h.1, map_toNat_inj h.2]
theorem ofString_inj {a b : String} : (Str.ofString a = Str.ofString b) = (a = b) := by
  refine propext ⟨fun h => ?_, fun h => by rw [h]⟩
  rw [Str.ofString_eq_toList, Str.ofString_eq_toList] at h
  have h1 : (a.toList.map Char.toNat).toArray = (b.toList.map Char.toNat).toArray := congrArg Str.cps h
  have h2 : a.toList.map Char.toNat = b.toList.map Char.toNat := by simpa using h1
  exact String.toList_inj.mp (map_toNat_inj h2)
theorem lookup_if {β : Type} (k a : Str) (b : β) (l : List (Str × β)) : List.lookup k ((a, b) :: l) = if k = a then some b else List.lookup k l := by
  rw [List.lookup_cons]
  by_cases h : k = a
  · subst h
    simp
  · have : (k == a) = false := by simpa using h
    rw [this, if_neg h]
/-! ### the mirror: a saying, a wood -/
structure Row where
  who : Str
  under : Int
  text : Str
  time : Int
  votes : List (Str × Int)
  struck : Bool
def Row.ups (r : Row) : Int := ((r.votes.filter fun p => decide (0 < p.2)).length : Nat)
def Row.downs (r : Row) : Int := ((r.votes.filter fun p => decide (p.2 < 0)).length : Nat)
def Row.points (r : Row) : Int := r.ups - r.downs
def Row.told (r : Row) : Option Str := if r.struck then none else some r.text
inductive Er where
  | name | no | text | full | yours | number | deed | nothing | kin
  deriving DecidableEq
def Er.cls : Er → Str
  | .name => "BadName" | .no => "NoSaying" | .text => "BadText" | .full => "Full" | .yours => "NotYours" | .number => "BadNumber" | .deed => "BadDeed" | .nothing => "Nothing" | .kin => "NotKin"
/-- the wish of a refusal -/
abbrev Bad (K : PySem.W.Frag) (E : XK) (e : Er) (H : Hp) : Prop := E (.ref (He.ga K e.cls)) none H
def sayFs (r : Row) (v : Addr) : List (Str × V) := [("by", .str r.who), ("under", .int r.under), ("text", .str r.text), ("time", .int r.time), ("votes", .ref v), ("is_struck", .bl r.struck)]
def woodFs (d : Addr) (c k : Int) : List (Str × V) := [("sayings", .ref d), ("came", .int c), ("clock", .int k)]
section
variable (r : Row) (v d : Addr) (c k : Int)
theorem fs_by : (sayFs r v).lookup (Str.ofString "by") = some (.str r.who) := by simp [sayFs, lookup_if, ofString_inj]
theorem fs_under : (sayFs r v).lookup (Str.ofString "under") = some (.int r.under) := by simp [sayFs, lookup_if, ofString_inj]
theorem fs_text : (sayFs r v).lookup (Str.ofString "text") = some (.str r.text) := by simp [sayFs, lookup_if, ofString_inj]
theorem fs_time : (sayFs r v).lookup (Str.ofString "time") = some (.int r.time) := by simp [sayFs, lookup_if, ofString_inj]
theorem fs_votes : (sayFs r v).lookup (Str.ofString "votes") = some (.ref v) := by simp [sayFs, lookup_if, ofString_inj]
theorem fs_struck : (sayFs r v).lookup (Str.ofString "is_struck") = some (.bl r.struck) := by simp [sayFs, lookup_if, ofString_inj]
theorem fs_ups : (sayFs r v).lookup (Str.ofString "ups") = none := by simp [sayFs, lookup_if, ofString_inj]
theorem fs_downs : (sayFs r v).lookup (Str.ofString "downs") = none := by simp [sayFs, lookup_if, ofString_inj]
theorem fs_points : (sayFs r v).lookup (Str.ofString "points") = none := by simp [sayFs, lookup_if, ofString_inj]
theorem fp_text (t : Str) : putF (Str.ofString "text") (.str t) (sayFs r v) = sayFs { r with text := t } v := by simp [sayFs, putF, ofString_inj]
theorem fp_struck (b : Bool) : putF (Str.ofString "is_struck") (.bl b) (sayFs r v) = sayFs { r with struck := b } v := by simp [sayFs, putF, ofString_inj]
theorem fp_votes (u : Addr) (vs : List (Str × Int)) : putF (Str.ofString "votes") (.ref u) (sayFs r v) = sayFs { r with votes := vs } u := by simp [sayFs, putF, ofString_inj]
theorem fs_len : (sayFs r v).length = 6 := rfl
theorem fw_sayings : (woodFs d c k).lookup (Str.ofString "sayings") = some (.ref d) := by simp [woodFs, lookup_if, ofString_inj]
theorem fw_came : (woodFs d c k).lookup (Str.ofString "came") = some (.int c) := by simp [woodFs, lookup_if, ofString_inj]
theorem fw_clock : (woodFs d c k).lookup (Str.ofString "clock") = some (.int k) := by simp [woodFs, lookup_if, ofString_inj]
theorem fpw_came (z : Int) : putF (Str.ofString "came") (.int z) (woodFs d c k) = woodFs d z k := by simp [woodFs, putF, ofString_inj]
theorem fpw_clock (z : Int) : putF (Str.ofString "clock") (.int z) (woodFs d c k) = woodFs d c z := by simp [woodFs, putF, ofString_inj]
theorem fw_len : (woodFs d c k).length = 3 := rfl
end
theorem fw_no (d : Addr) (c k : Int) {m : String} (h1 : m ≠ "sayings") (h2 : m ≠ "came") (h3 : m ≠ "clock") : (woodFs d c k).lookup (Str.ofString m) = none := by
  simp [woodFs, lookup_if, ofString_inj, h1, h2, h3]
/-! ### names and texts -/
def small : List Nat := (Str.ofString "abcdefghijklmnopqrstuvwxyz").cps.toList
def nameZ (z : Str) : Bool := decide (1 ≤ z.length) && decide (z.length ≤ 6) && z.cps.toList.all fun c => decide (c ∈ small)
def signOk (c : Nat) : Bool := decide (32 ≤ c) && decide (c ≤ 126) && decide (c ≠ 37)
def textZ (z : Str) : Bool := decide (1 ≤ z.length) && decide (z.length ≤ 30) && z.cps.toList.all signOk
def nameOk : PyData → Bool
  | .str z => nameZ z
  | _ => false
def textOk : PyData → Bool
  | .str z => textZ z
  | _ => false
/-- a text is not too long for the machine -/
def Short : PyData → Prop
  | .str z => z.length < sizeLine
  | _ => True
def isCount (d : PyData) (lo hi : Int) : Bool := match d with
  | .int i => decide (lo ≤ i) && decide (i ≤ hi)
  | _ => false
end Vw
namespace Vw
open PySem PySem.Spec PyProof.Rows L2
/-! ### rows by numbers, what is above and below -/
abbrev Rows := List (Int × Row)
def findR (rs : Rows) (n : Int) : Option Row := (rs.find? fun p => decide (p.1 = n)).map (·.2)
def upR (rs : Rows) (n : Int) : Int := ((findR rs n).map (·.under)).getD 0
def aboveR (rs : Rows) (n : Int) : List Int := if h : 0 < n ∧ 0 ≤ upR rs n ∧ upR rs n < n then upR rs n :: aboveR rs (upR rs n) else []
termination_by n.toNat
decreasing_by omega
structure Wf (rs : Rows) : Prop where
  nk : (rs.map (·.1)).Nodup
  pos : ∀ p ∈ rs, 0 < p.1
  u0 : ∀ p ∈ rs, 0 ≤ p.2.under
  ult : ∀ p ∈ rs, p.2.under < p.1
  has : ∀ p ∈ rs, p.2.under = 0 ∨ ∃ r, findR rs p.2.under = some r
theorem findR_mem {rs : Rows} {n : Int} {r : Row} (h : findR rs n = some r) : (n, r) ∈ rs := by
  unfold findR at h
  cases e : rs.find? fun p => decide (p.1 = n) with
  | none => rw [e] at h; cases h
  | some p =>
    rw [e] at h
    have h1 := List.mem_of_find?_eq_some e
    have h2 := List.find?_some e
    simp only [decide_eq_true_eq] at h2
    simp only [Option.map_some, Option.some.injEq] at h
    rw [← h, ← h2]
    exact h1
theorem findR_of {rs : Rows} (nk : (rs.map (·.1)).Nodup) {n : Int} {r : Row} (h : (n, r) ∈ rs) : findR rs n = some r := by
  induction rs with
  | nil => cases h
  | cons q t ih =>
    simp only [List.map_cons, List.nodup_cons] at nk
    unfold findR
    rw [List.find?_cons]
    rcases List.mem_cons.mp h with rfl | h
    · simp
    · have hn : ¬ q.1 = n := fun z => nk.1 (List.mem_map.mpr ⟨(n, r), h, z.symm⟩)
      simp only [hn, decide_false]
      exact ih nk.2 h
theorem findR_none {rs : Rows} {n : Int} : findR rs n = none ↔ ∀ p ∈ rs, p.1 ≠ n := by
  unfold findR
  rw [Option.map_eq_none_iff, List.find?_eq_none]
  simp
section
variable {rs : Rows} (F : Wf rs)
include F
theorem Wf.up {n : Int} {r : Row} (h : findR rs n = some r) : upR rs n = r.under ∧ 0 < n ∧ 0 ≤ r.under ∧ r.under < n := by
  have m := findR_mem h
  refine ⟨by unfold upR; rw [h]; rfl, F.pos _ m, F.u0 _ m, F.ult _ m⟩
theorem Wf.above {n : Int} {r : Row} (h : findR rs n = some r) : aboveR rs n = r.under :: aboveR rs r.under := by
  obtain ⟨e, h1, h2, h3⟩ := F.up h
  rw [aboveR, dif_pos (by rw [e]; exact ⟨h1, h2, h3⟩), e]
end
theorem above_zero (rs : Rows) : aboveR rs 0 = [] := by
  rw [aboveR, dif_neg (by omega)]
/-- all above a saying is less, and is 0 or there -/
theorem Wf.above_lt {rs : Rows} (F : Wf rs) : ∀ (k : Nat) (n : Int), n.toNat ≤ k → ∀ m ∈ aboveR rs n, 0 ≤ m ∧ m < n ∧ (m = 0 ∨ ∃ r, findR rs m = some r)
  | k, n, hk, m, hm => by
    rw [aboveR] at hm
    split at hm
    · rename_i h
      rcases List.mem_cons.mp hm with rfl | hm
      · refine ⟨h.2.1, h.2.2, ?_⟩
        cases e : findR rs n with
        | none =>
          left
          unfold upR
          rw [e]
          rfl
        | some r =>
          rw [(F.up e).1]
          exact F.has _ (findR_mem e)
      · cases k with
        | zero => omega
        | succ k =>
          obtain ⟨h1, h2, h3⟩ := Wf.above_lt F k (upR rs n) (by omega) m hm
          exact ⟨h1, by omega, h3⟩
    · cases hm
/-- what is under one, at any depth: all for 0 -/
def beneathR (rs : Rows) (n : Int) : List Int := (rs.map (·.1)).filter fun m => decide (n ∈ aboveR rs m)
def repliesR (rs : Rows) (n : Int) : List Int := (rs.filter fun p => decide (p.2.under = n)).map (·.1)
def deepI (rs : Rows) (n : Int) : Nat := (aboveR rs n).length - 1
structure Wd where
  rows : Rows
  came : Int
  clock : Int
def sayingM (M : Wd) (d : PyData) : Option (Int × Row) := match d with
  | .int n => if 1 ≤ n ∧ n ≤ M.came then (findR M.rows n).map fun r => (n, r) else none
  | _ => none
def underOk (M : Wd) : PyData → Bool
  | .int n => decide (n = 0) || (decide (1 ≤ n) && decide (n ≤ M.came) && (findR M.rows n).isSome)
  | _ => false
def sayM (M : Wd) (b u t : PyData) : Except Er (Int × Wd) :=
  if nameOk b = false then .error .name else if underOk M u = false then .error .no else if textOk t = false then .error .text else match b, u, t with
  | .str who, .int n, .str text => if 60 ≤ M.rows.length ∨ (n ≠ 0 ∧ 8 ≤ deepI M.rows n + 1) then .error .full
    else .ok (M.came + 1, ⟨M.rows ++ [(M.came + 1, ⟨who, n, text, M.clock, [], false⟩)], M.came + 1, M.clock⟩)
  | _, _, _ => .error .name
def isS : PyData → Str → Bool
  | .str z, w => decide (z = w)
  | _, _ => false
def ownM (M : Wd) (d b : PyData) : Except Er (Int × Row) := match sayingM M d with
  | none => .error .no
  | some (n, r) => if nameOk b = false then .error .name else if isS b r.who = true ∧ r.struck = false then .ok (n, r) else .error .yours
def setR (rs : Rows) (n : Int) (r : Row) : Rows := rs.map fun p => if p.1 = n then (n, r) else p
def changeM (M : Wd) (d b t : PyData) : Except Er Wd := match ownM M d b with
  | .error e => .error e
  | .ok (n, r) => match t with
    | .str z => if textZ z then .ok { M with rows := setR M.rows n { r with text := z } } else .error .text
    | _ => .error .text
def dropR (rs : Rows) (n : Int) : Rows := rs.filter fun p => decide (p.1 ≠ n)
/-- struck ones without anything under them go, from n upwards: what is left, how many went -/
def goneR (rs : Rows) (n : Int) : Rows × Int := match findR rs n with
  | none => (rs, 0)
  | some r => if h : 0 < n ∧ 0 ≤ r.under ∧ r.under < n ∧ r.struck = true ∧ repliesR rs n = [] then let g := goneR (dropR rs n) r.under; (g.1, g.2 + 1) else (rs, 0)
termination_by n.toNat
decreasing_by omega
def strikeM (M : Wd) (d b : PyData) : Except Er (Int × Wd) := match ownM M d b with
  | .error e => .error e
  | .ok (n, r) => .ok ((goneR (setR M.rows n { r with struck := true }) n).2, { M with rows := (goneR (setR M.rows n { r with struck := true }) n).1 })
/-- votes behind a vote -/
def votesM (vs : List (Str × Int)) (who : Str) (way : Int) : List (Str × Int) :=
  let us := vs.filter fun p => decide (p.1 ≠ who)
  if way = 0 then us else us ++ [(who, way)]
def voteM (M : Wd) (d b wy : PyData) : Except Er (Int × Wd) := match sayingM M d with
  | none => .error .no
  | some (n, r) => if nameOk b = false then .error .name else if isCount wy (-1) 1 = false then .error .number else match b, wy with
    | .str who, .int way => if r.who = who ∨ r.struck = true then .error .yours else
      .ok (Row.points { r with votes := votesM r.votes who way }, { M with rows := setR M.rows n { r with votes := votesM r.votes who way } })
    | _, _ => .error .name
def standingM (M : Wd) (who : Str) : Int := ((M.rows.filter fun p => decide (p.2.who = who) && !p.2.struck).map fun p => p.2.points).sum
end Vw
namespace Vw
open PySem PySem.Spec PyProof.Rows L2
/-! ### above and below: the mathematics -/
theorem above_lt {rs : Rows} (F : Wf rs) {n m : Int} (h : m ∈ aboveR rs n) : 0 ≤ m ∧ m < n ∧ (m = 0 ∨ ∃ r, findR rs m = some r) := F.above_lt n.toNat n (Nat.le_refl _) m h
theorem above_trans {rs : Rows} (F : Wf rs) : ∀ (k : Nat) {x c m : Int}, x.toNat ≤ k → c ∈ aboveR rs x → m ∈ aboveR rs c → m ∈ aboveR rs x
  | k, x, c, m, hk, hc, hm => by
    rw [aboveR] at hc
    split at hc
    · rename_i h
      rw [aboveR, dif_pos h]
      rcases List.mem_cons.mp hc with rfl | hc
      · exact List.mem_cons_of_mem _ hm
      · cases k with
        | zero => omega
        | succ k => exact List.mem_cons_of_mem _ (above_trans F k (by omega) hc hm)
    · cases hc
/-- the way up is one: of two on it the lesser one is above the greater one -/
theorem above_one {rs : Rows} (F : Wf rs) : ∀ (k : Nat) {x c1 c2 : Int}, x.toNat ≤ k → (c1 = x ∨ c1 ∈ aboveR rs x) → (c2 = x ∨ c2 ∈ aboveR rs x) → c2 < c1 → c2 ∈ aboveR rs c1
  | k, x, c1, c2, hk, h1, h2, hlt => by
    rcases h1 with rfl | h1
    · rcases h2 with rfl | h2
      · omega
      · exact h2
    · have l1 := above_lt F h1
      rcases h2 with rfl | h2
      · omega
      · rw [aboveR] at h1 h2
        split at h1
        · rename_i h
          rw [dif_pos h] at h2
          cases k with
          | zero => omega
          | succ k => exact above_one F k (x := upR rs x) (by omega) (List.mem_cons.mp h1) (List.mem_cons.mp h2) hlt
        · cases h1
theorem mem_keys {rs : Rows} {n : Int} : n ∈ rs.map (·.1) ↔ ∃ r, (n, r) ∈ rs := by simp
theorem mem_replies {rs : Rows} {c n : Int} : c ∈ repliesR rs n ↔ ∃ r, (c, r) ∈ rs ∧ r.under = n := by
  unfold repliesR
  simp only [List.mem_map, List.mem_filter, decide_eq_true_eq]
  constructor
  · rintro ⟨p, ⟨h1, h2⟩, rfl⟩
    exact ⟨p.2, h1, h2⟩
  · rintro ⟨r, h1, h2⟩
    exact ⟨(c, r), ⟨h1, h2⟩, rfl⟩
theorem mem_beneath {rs : Rows} {m n : Int} : m ∈ beneathR rs n ↔ (∃ r, (m, r) ∈ rs) ∧ n ∈ aboveR rs m := by
  unfold beneathR
  rw [List.mem_filter, mem_keys]
  simp
theorem reply_above {rs : Rows} (F : Wf rs) {c n : Int} (h : c ∈ repliesR rs n) : aboveR rs c = n :: aboveR rs n := by
  obtain ⟨r, h1, h2⟩ := mem_replies.mp h
  rw [F.above (findR_of F.nk h1), h2]
/-- from x up to n there is one right under n -/
theorem above_child {rs : Rows} (F : Wf rs) : ∀ (k : Nat) {x n : Int}, x.toNat ≤ k → (∃ r, findR rs x = some r) → n ∈ aboveR rs x → ∃ c ∈ repliesR rs n, c = x ∨ c ∈ aboveR rs x
  | k, x, n, hk, ⟨r, hr⟩, h => by
    have ab := F.above hr
    obtain ⟨e, p1, p2, p3⟩ := F.up hr
    rw [ab] at h
    rcases List.mem_cons.mp h with rfl | h
    · exact ⟨x, mem_replies.mpr ⟨r, findR_mem hr, rfl⟩, .inl rfl⟩
    · rcases F.has _ (findR_mem hr) with z | ⟨r', hr'⟩
      · have z : r.under = 0 := z
        rw [z, above_zero] at h
        cases h
      · cases k with
        | zero => omega
        | succ k =>
          obtain ⟨c, hc, h'⟩ := above_child F k (x := r.under) (by omega) ⟨r', hr'⟩ h
          refine ⟨c, hc, .inr ?_⟩
          rw [ab]
          rcases h' with rfl | h'
          · exact List.mem_cons_self
          · exact List.mem_cons_of_mem _ h'
theorem nodup_replies {rs : Rows} (nk : (rs.map (·.1)).Nodup) (n : Int) : (repliesR rs n).Nodup := by
  unfold repliesR
  exact nk.sublist (List.Sublist.map _ List.filter_sublist)
theorem nodup_beneath {rs : Rows} (nk : (rs.map (·.1)).Nodup) (n : Int) : (beneathR rs n).Nodup := nk.sublist List.filter_sublist
theorem beneath_step {rs : Rows} (F : Wf rs) (n : Int) : ((repliesR rs n).flatMap fun c => c :: beneathR rs c).Perm (beneathR rs n) := by
  rw [List.perm_ext_iff_of_nodup]
  · intro x
    simp only [List.mem_flatMap, List.mem_cons, mem_beneath]
    constructor
    · rintro ⟨c, hc, rfl | ⟨hx, hcx⟩⟩
      · obtain ⟨r, h1, _⟩ := mem_replies.mp hc
        exact ⟨⟨r, h1⟩, by rw [reply_above F hc]; exact List.mem_cons_self⟩
      · exact ⟨hx, above_trans F _ (Nat.le_refl _) hcx (by rw [reply_above F hc]; exact List.mem_cons_self)⟩
    · rintro ⟨⟨r, hr⟩, h⟩
      obtain ⟨c, hc, h'⟩ := above_child F _ (Nat.le_refl _) ⟨r, findR_of F.nk hr⟩ h
      rcases h' with rfl | h'
      · exact ⟨c, hc, .inl rfl⟩
      · exact ⟨c, hc, .inr ⟨⟨r, hr⟩, h'⟩⟩
  · unfold List.Nodup
    rw [List.pairwise_flatMap]
    constructor
    · intro c hc
      refine List.pairwise_cons.mpr ⟨fun m hm => ?_, nodup_beneath F.nk c⟩
      have := (above_lt F (mem_beneath.mp hm).2).2.1
      omega
    · refine (nodup_replies F.nk n).imp_of_mem fun {a b} ha hb hab x hx y hy => ?_
      rintro rfl
      have sa : a = x ∨ a ∈ aboveR rs x := by
        rcases List.mem_cons.mp hx with h | h
        · exact .inl h.symm
        · exact .inr (mem_beneath.mp h).2
      have sb : b = x ∨ b ∈ aboveR rs x := by
        rcases List.mem_cons.mp hy with h | h
        · exact .inl h.symm
        · exact .inr (mem_beneath.mp h).2
      have ga := reply_above F ha
      have gb := reply_above F hb
      have la : n < a := (above_lt F (show n ∈ aboveR rs a by rw [ga]; exact List.mem_cons_self)).2.1
      have lb : n < b := (above_lt F (show n ∈ aboveR rs b by rw [gb]; exact List.mem_cons_self)).2.1
      rcases Int.lt_trichotomy a b with h | h | h
      · have z := above_one F _ (Nat.le_refl _) sb sa h
        rw [gb] at z
        rcases List.mem_cons.mp z with z | z
        · omega
        · have := (above_lt F z).2.1
          omega
      · exact hab h
      · have z := above_one F _ (Nat.le_refl _) sa sb h
        rw [ga] at z
        rcases List.mem_cons.mp z with z | z
        · omega
        · have := (above_lt F z).2.1
          omega
  · exact nodup_beneath F.nk n
/-- a wood that can be -/
structure Good (M : Wd) : Prop where
  wf : Wf M.rows
  le : ∀ p ∈ M.rows, p.1 ≤ M.came
  dp : ∀ p ∈ M.rows, (aboveR M.rows p.1).length ≤ 8
  len : M.rows.length ≤ 60
theorem Good.dp0 {M : Wd} (G : Good M) {n : Int} (h : n = 0 ∨ ∃ r, findR M.rows n = some r) : (aboveR M.rows n).length ≤ 8 := by
  rcases h with rfl | ⟨r, h⟩
  · rw [above_zero]
    decide
  · exact G.dp _ (findR_mem h)
theorem Wf.find0 {rs : Rows} (F : Wf rs) : findR rs 0 = none := by
  rw [findR_none]
  intro p hp e
  have := F.pos p hp
  omega
/-! ### a row set, a row gone -/
theorem setR_keys (rs : Rows) (n : Int) (r : Row) : (setR rs n r).map (·.1) = rs.map (·.1) := by
  unfold setR
  rw [List.map_map]
  apply List.map_congr_left
  intro p _
  show (if p.1 = n then (n, r) else p).1 = p.1
  split
  · rename_i h
    exact h.symm
  · rfl
theorem findR_setR (rs : Rows) (n m : Int) (r : Row) : findR (setR rs n r) m = if m = n then (findR rs n).map fun _ => r else findR rs m := by
  unfold findR setR
  rw [List.find?_map]
  by_cases h : m = n
  · subst h
    rw [if_pos rfl]
    have : ((fun p : Int × Row => decide (p.1 = m)) ∘ fun p : Int × Row => if p.1 = m then (m, r) else p) = fun p => decide (p.1 = m) := by
      funext p
      show decide ((if p.1 = m then (m, r) else p).1 = m) = decide (p.1 = m)
      by_cases c : p.1 = m <;> simp [c]
    rw [this]
    cases e : List.find? (fun p : Int × Row => decide (p.1 = m)) rs with
    | none => rfl
    | some p =>
      have := List.find?_some e
      simp only [decide_eq_true_eq] at this
      simp [this]
  · rw [if_neg h]
    have : ((fun p : Int × Row => decide (p.1 = m)) ∘ fun p : Int × Row => if p.1 = n then (n, r) else p) = fun p => decide (p.1 = m) := by
      funext p
      show decide ((if p.1 = n then (n, r) else p).1 = m) = decide (p.1 = m)
      by_cases c : p.1 = n
      · have h1 : ¬ n = m := fun z => h z.symm
        have h2 : ¬ p.1 = m := fun z => h (z.symm.trans c)
        simp [c, h1]
      · simp [c]
    rw [this]
    cases e : List.find? (fun p : Int × Row => decide (p.1 = m)) rs with
    | none => rfl
    | some p =>
      have := List.find?_some e
      simp only [decide_eq_true_eq] at this
      have : ¬ p.1 = n := fun z => h (this.symm.trans z)
      simp [this]
theorem findR_set {rs : Rows} (nk : (rs.map (·.1)).Nodup) {n : Int} {r r' : Row} (h : findR rs n = some r) : findR (setR rs n r') n = some r' := by
  rw [findR_setR, if_pos rfl, h]
  rfl
theorem mem_setR {rs : Rows} {n : Int} {r : Row} {p : Int × Row} (h : p ∈ setR rs n r) : (p = (n, r) ∧ ∃ r0, (n, r0) ∈ rs) ∨ (p ∈ rs ∧ p.1 ≠ n) := by
  obtain ⟨q, hq, e⟩ := List.mem_map.mp h
  by_cases c : q.1 = n
  · rw [if_pos c] at e
    refine .inl ⟨e.symm, q.2, ?_⟩
    rw [← c]
    exact hq
  · rw [if_neg c] at e
    subst e
    exact .inr ⟨hq, c⟩
theorem Wf.set {rs : Rows} (F : Wf rs) {n : Int} {r r' : Row} (h : findR rs n = some r) (hu : r'.under = r.under) : Wf (setR rs n r') := by
  have hm := findR_mem h
  refine ⟨by rw [setR_keys]; exact F.nk, fun p hp => ?_, fun p hp => ?_, fun p hp => ?_, fun p hp => ?_⟩
  · rcases mem_setR hp with ⟨rfl, _⟩ | ⟨hp, _⟩
    · have := F.pos _ hm
      exact this
    · exact F.pos _ hp
  · rcases mem_setR hp with ⟨rfl, _⟩ | ⟨hp, _⟩
    · show 0 ≤ r'.under
      rw [hu]
      exact F.u0 _ hm
    · exact F.u0 _ hp
  · rcases mem_setR hp with ⟨rfl, _⟩ | ⟨hp, _⟩
    · show r'.under < n
      rw [hu]
      exact F.ult _ hm
    · exact F.ult _ hp
  · have key : ∀ u : Int, (u = 0 ∨ ∃ z, findR rs u = some z) → (u = 0 ∨ ∃ z, findR (setR rs n r') u = some z) := fun u q => by
      rcases q with q | ⟨z, q⟩
      · exact .inl q
      · right
        rw [findR_setR]
        by_cases c : u = n
        · rw [if_pos c, h]
          exact ⟨_, rfl⟩
        · rw [if_neg c]
          exact ⟨z, q⟩
    rcases mem_setR hp with ⟨rfl, _⟩ | ⟨hp, _⟩
    · apply key
      show r'.under = 0 ∨ _
      rw [hu]
      exact F.has _ hm
    · exact key _ (F.has _ hp)
theorem findR_drop (rs : Rows) (n m : Int) : findR (dropR rs n) m = if m = n then none else findR rs m := by
  by_cases h : m = n
  · rw [if_pos h, findR_none]
    intro p hp e
    have := (List.mem_filter.mp hp).2
    simp only [decide_eq_true_eq] at this
    exact this (e.trans h)
  · rw [if_neg h]
    unfold findR dropR
    rw [List.find?_filter]
    congr 2
    funext p
    by_cases c : p.1 = m
    · have : ¬ p.1 = n := fun z => h (c.symm.trans z)
      simp [c, h]
    · simp [c]
theorem Wf.drop {rs : Rows} (F : Wf rs) {n : Int} (hn : repliesR rs n = []) : Wf (dropR rs n) := by
  have sub : (dropR rs n).Sublist rs := List.filter_sublist
  refine ⟨F.nk.sublist (sub.map _), fun p hp => F.pos p (sub.mem hp), fun p hp => F.u0 p (sub.mem hp), fun p hp => F.ult p (sub.mem hp), fun p hp => ?_⟩
  rcases F.has p (sub.mem hp) with h | ⟨r, h⟩
  · exact .inl h
  · right
    have : ¬ p.2.under = n := fun z => by
      have q : p.1 ∈ repliesR rs n := mem_replies.mpr ⟨p.2, sub.mem hp, z⟩
      rw [hn] at q
      cases q
    rw [findR_drop, if_neg this]
    exact ⟨r, h⟩
end Vw
namespace Vw
open PySem PySem.Spec PyProof.Rows L2
def top (i : Nat) : Stmt := PySem.Challenge.pw_votewood_k66_whole_times_of_ledgers.main.body.getD i (.Pass ⟨0, 0, 0, 0⟩)
abbrev s__wall : Stmt := top 0
abbrev s_is_count : Stmt := top 20
abbrev s_need_name : Stmt := top 21
abbrev s_need_text : Stmt := top 22
abbrev s_Saying___init__ : Stmt := inClass (top 23) 0
abbrev s_Saying_ups : Stmt := inClass (top 23) 1
abbrev s_Saying_downs : Stmt := inClass (top 23) 2
abbrev s_Saying_points : Stmt := inClass (top 23) 3
abbrev s_Wood___init__ : Stmt := inClass (top 24) 0
abbrev s_Wood_now : Stmt := inClass (top 24) 1
abbrev s_Wood_tick : Stmt := inClass (top 24) 2
abbrev s_Wood_saying : Stmt := inClass (top 24) 3
abbrev s_Wood_numbers : Stmt := inClass (top 24) 4
abbrev s_Wood_deep : Stmt := inClass (top 24) 5
abbrev s_Wood_say : Stmt := inClass (top 24) 6
abbrev s_Wood_look : Stmt := inClass (top 24) 7
abbrev s_Wood_own : Stmt := inClass (top 24) 8
abbrev s_Wood_change : Stmt := inClass (top 24) 9
abbrev s_Wood_replies : Stmt := inClass (top 24) 10
abbrev s_Wood_strike : Stmt := inClass (top 24) 11
abbrev s_Wood_vote : Stmt := inClass (top 24) 12
abbrev s_Wood_votes_of : Stmt := inClass (top 24) 13
abbrev s_Wood_below : Stmt := inClass (top 24) 14
abbrev s_Wood_many : Stmt := inClass (top 24) 15
abbrev s_Wood_standing : Stmt := inClass (top 24) 16
abbrev s_done : Stmt := top 27
abbrev s_played : Stmt := top 28
abbrev s_Ledger___init__ : Stmt := inClass (top 29) 0
abbrev s_Ledger_do : Stmt := inClass (top 29) 1
abbrev s_Ledger_undo : Stmt := inClass (top 29) 2
abbrev s_Ledger_redo : Stmt := inClass (top 29) 3
abbrev s_Ledger_log : Stmt := inClass (top 29) 4
abbrev s_Ledger_whole : Stmt := inClass (top 29) 5
abbrev s_Ledger_behind : Stmt := inClass (top 29) 6
abbrev s_Ledger_as_of : Stmt := inClass (top 29) 7
abbrev s_is_like : Stmt := top 31
abbrev s_comes_of : Stmt := top 32
abbrev s__law_cell : Stmt := top 34
abbrev s__law_drawn : Stmt := top 35
abbrev s__law_word : Stmt := top 36
abbrev s__law_told : Stmt := top 37
abbrev s__law_any_name : Stmt := top 38
abbrev s__law_any_text : Stmt := top 39
abbrev s__law_own : Stmt := top 40
abbrev s__law_beneath : Stmt := top 41
abbrev s__law_above : Stmt := top 42
abbrev s__law_points : Stmt := top 43
abbrev s__law_say : Stmt := top 44
abbrev s__law_strike : Stmt := top 45
abbrev s__law_act : Stmt := top 46
abbrev s__law_deed : Stmt := top 47
abbrev s__law_like : Stmt := top 48
abbrev s__law_one_like : Stmt := top 49
abbrev s__law_as_ledger : Stmt := top 50
abbrev s__law_own_copy : Stmt := top 51
abbrev s__law_is_whole : Stmt := top 52
abbrev s_law : Stmt := top 53
abbrev errs : List Str := ["BadName", "NoSaying", "BadText", "Full", "NotYours", "BadNumber", "BadDeed", "Nothing", "NotKin"]
abbrev tabs (K : PySem.W.Frag) : List (Addr × Str) := [((He.cT K ("law", none)).2, "law.<locals>.<lambda>")]
structure Txt (K : PySem.W.Frag) (mg : Str → Option Value) (base : Heap) : Prop where
  x_WoodError : Exc K mg "WoodError"
  x_BadName : Exc K mg "BadName"
  x_NoSaying : Exc K mg "NoSaying"
  x_BadText : Exc K mg "BadText"
  x_Full : Exc K mg "Full"
  x_NotYours : Exc K mg "NotYours"
  x_BadNumber : Exc K mg "BadNumber"
  x_BadDeed : Exc K mg "BadDeed"
  x_Nothing : Exc K mg "Nothing"
  x_NotKin : Exc K mg "NotKin"
  c_Saying : Own K mg "Saying"
  n_Saying_by : NoAttr K (He.ga K "Saying") "by"
  n_Saying_under : NoAttr K (He.ga K "Saying") "under"
  n_Saying_text : NoAttr K (He.ga K "Saying") "text"
  n_Saying_time : NoAttr K (He.ga K "Saying") "time"
  n_Saying_votes : NoAttr K (He.ga K "Saying") "votes"
  n_Saying_is_struck : NoAttr K (He.ga K "Saying") "is_struck"
  c_Wood : Own K mg "Wood"
  n_Wood_sayings : NoAttr K (He.ga K "Wood") "sayings"
  n_Wood_came : NoAttr K (He.ga K "Wood") "came"
  n_Wood_clock : NoAttr K (He.ga K "Wood") "clock"
  c_Ledger : Own K mg "Ledger"
  n_Ledger_deeds : NoAttr K (He.ga K "Ledger") "deeds"
  n_Ledger_taken : NoAttr K (He.ga K "Ledger") "taken"
  n_Ledger_grown : NoAttr K (He.ga K "Ledger") "grown"
  g_is_count : mg "is_count" = some (.ref (He.ga K "is_count"))
  f_is_count : Is K "is_count" "is_count" s_is_count (He.ga K "is_count")
  g_need_name : mg "need_name" = some (.ref (He.ga K "need_name"))
  f_need_name : Is K "need_name" "need_name" s_need_name (He.ga K "need_name")
  g_need_text : mg "need_text" = some (.ref (He.ga K "need_text"))
  f_need_text : Is K "need_text" "need_text" s_need_text (He.ga K "need_text")
  f_Saying___init__ : Is K "__init__" "Saying.__init__" s_Saying___init__ (He.ma K (He.ga K "Saying") "__init__")
  m_Saying_ups : Meth K (He.ga K "Saying") "ups" (He.ma K (He.ga K "Saying") "ups")
  f_Saying_ups : Is K "ups" "Saying.ups" s_Saying_ups (He.ma K (He.ga K "Saying") "ups")
  m_Saying_downs : Meth K (He.ga K "Saying") "downs" (He.ma K (He.ga K "Saying") "downs")
  f_Saying_downs : Is K "downs" "Saying.downs" s_Saying_downs (He.ma K (He.ga K "Saying") "downs")
  m_Saying_points : Meth K (He.ga K "Saying") "points" (He.ma K (He.ga K "Saying") "points")
  f_Saying_points : Is K "points" "Saying.points" s_Saying_points (He.ma K (He.ga K "Saying") "points")
  f_Wood___init__ : Is K "__init__" "Wood.__init__" s_Wood___init__ (He.ma K (He.ga K "Wood") "__init__")
  m_Wood_now : Meth K (He.ga K "Wood") "now" (He.ma K (He.ga K "Wood") "now")
  f_Wood_now : Is K "now" "Wood.now" s_Wood_now (He.ma K (He.ga K "Wood") "now")
  m_Wood_tick : Meth K (He.ga K "Wood") "tick" (He.ma K (He.ga K "Wood") "tick")
  f_Wood_tick : Is K "tick" "Wood.tick" s_Wood_tick (He.ma K (He.ga K "Wood") "tick")
  m_Wood_saying : Meth K (He.ga K "Wood") "saying" (He.ma K (He.ga K "Wood") "saying")
  f_Wood_saying : Is K "saying" "Wood.saying" s_Wood_saying (He.ma K (He.ga K "Wood") "saying")
  m_Wood_numbers : Meth K (He.ga K "Wood") "numbers" (He.ma K (He.ga K "Wood") "numbers")
  f_Wood_numbers : Is K "numbers" "Wood.numbers" s_Wood_numbers (He.ma K (He.ga K "Wood") "numbers")
  m_Wood_deep : Meth K (He.ga K "Wood") "deep" (He.ma K (He.ga K "Wood") "deep")
  f_Wood_deep : Is K "deep" "Wood.deep" s_Wood_deep (He.ma K (He.ga K "Wood") "deep")
  m_Wood_say : Meth K (He.ga K "Wood") "say" (He.ma K (He.ga K "Wood") "say")
  f_Wood_say : Is K "say" "Wood.say" s_Wood_say (He.ma K (He.ga K "Wood") "say")
  m_Wood_look : Meth K (He.ga K "Wood") "look" (He.ma K (He.ga K "Wood") "look")
  f_Wood_look : Is K "look" "Wood.look" s_Wood_look (He.ma K (He.ga K "Wood") "look")
  m_Wood_own : Meth K (He.ga K "Wood") "own" (He.ma K (He.ga K "Wood") "own")
  f_Wood_own : Is K "own" "Wood.own" s_Wood_own (He.ma K (He.ga K "Wood") "own")
  m_Wood_change : Meth K (He.ga K "Wood") "change" (He.ma K (He.ga K "Wood") "change")
  f_Wood_change : Is K "change" "Wood.change" s_Wood_change (He.ma K (He.ga K "Wood") "change")
  m_Wood_replies : Meth K (He.ga K "Wood") "replies" (He.ma K (He.ga K "Wood") "replies")
  f_Wood_replies : Is K "replies" "Wood.replies" s_Wood_replies (He.ma K (He.ga K "Wood") "replies")
  m_Wood_strike : Meth K (He.ga K "Wood") "strike" (He.ma K (He.ga K "Wood") "strike")
  f_Wood_strike : Is K "strike" "Wood.strike" s_Wood_strike (He.ma K (He.ga K "Wood") "strike")
  m_Wood_vote : Meth K (He.ga K "Wood") "vote" (He.ma K (He.ga K "Wood") "vote")
  f_Wood_vote : Is K "vote" "Wood.vote" s_Wood_vote (He.ma K (He.ga K "Wood") "vote")
  m_Wood_votes_of : Meth K (He.ga K "Wood") "votes_of" (He.ma K (He.ga K "Wood") "votes_of")
  f_Wood_votes_of : Is K "votes_of" "Wood.votes_of" s_Wood_votes_of (He.ma K (He.ga K "Wood") "votes_of")
  m_Wood_below : Meth K (He.ga K "Wood") "below" (He.ma K (He.ga K "Wood") "below")
  f_Wood_below : Is K "below" "Wood.below" s_Wood_below (He.ma K (He.ga K "Wood") "below")
  m_Wood_many : Meth K (He.ga K "Wood") "many" (He.ma K (He.ga K "Wood") "many")
  f_Wood_many : Is K "many" "Wood.many" s_Wood_many (He.ma K (He.ga K "Wood") "many")
  m_Wood_standing : Meth K (He.ga K "Wood") "standing" (He.ma K (He.ga K "Wood") "standing")
  f_Wood_standing : Is K "standing" "Wood.standing" s_Wood_standing (He.ma K (He.ga K "Wood") "standing")
  g_done : mg "done" = some (.ref (He.ga K "done"))
  f_done : Is K "done" "done" s_done (He.ga K "done")
  g_played : mg "played" = some (.ref (He.ga K "played"))
  f_played : Is K "played" "played" s_played (He.ga K "played")
  f_Ledger___init__ : Is K "__init__" "Ledger.__init__" s_Ledger___init__ (He.ma K (He.ga K "Ledger") "__init__")
  m_Ledger_do : Meth K (He.ga K "Ledger") "do" (He.ma K (He.ga K "Ledger") "do")
  f_Ledger_do : Is K "do" "Ledger.do" s_Ledger_do (He.ma K (He.ga K "Ledger") "do")
  m_Ledger_whole : Meth K (He.ga K "Ledger") "whole" (He.ma K (He.ga K "Ledger") "whole")
  f_Ledger_whole : Is K "whole" "Ledger.whole" s_Ledger_whole (He.ma K (He.ga K "Ledger") "whole")
  m_Ledger_behind : Meth K (He.ga K "Ledger") "behind" (He.ma K (He.ga K "Ledger") "behind")
  f_Ledger_behind : Is K "behind" "Ledger.behind" s_Ledger_behind (He.ma K (He.ga K "Ledger") "behind")
  m_Ledger_as_of : Meth K (He.ga K "Ledger") "as_of" (He.ma K (He.ga K "Ledger") "as_of")
  f_Ledger_as_of : Is K "as_of" "Ledger.as_of" s_Ledger_as_of (He.ma K (He.ga K "Ledger") "as_of")
  g_is_like : mg "is_like" = some (.ref (He.ga K "is_like"))
  f_is_like : Is K "is_like" "is_like" s_is_like (He.ga K "is_like")
  g_comes_of : mg "comes_of" = some (.ref (He.ga K "comes_of"))
  f_comes_of : Is K "comes_of" "comes_of" s_comes_of (He.ga K "comes_of")
  g__law_cell : mg "_law_cell" = some (.ref (He.ga K "_law_cell"))
  f__law_cell : Is K "_law_cell" "_law_cell" s__law_cell (He.ga K "_law_cell")
  g__law_drawn : mg "_law_drawn" = some (.ref (He.ga K "_law_drawn"))
  f__law_drawn : Is K "_law_drawn" "_law_drawn" s__law_drawn (He.ga K "_law_drawn")
  g__law_word : mg "_law_word" = some (.ref (He.ga K "_law_word"))
  f__law_word : Is K "_law_word" "_law_word" s__law_word (He.ga K "_law_word")
  g__law_told : mg "_law_told" = some (.ref (He.ga K "_law_told"))
  f__law_told : Is K "_law_told" "_law_told" s__law_told (He.ga K "_law_told")
  g__law_any_name : mg "_law_any_name" = some (.ref (He.ga K "_law_any_name"))
  f__law_any_name : Is K "_law_any_name" "_law_any_name" s__law_any_name (He.ga K "_law_any_name")
  g__law_any_text : mg "_law_any_text" = some (.ref (He.ga K "_law_any_text"))
  f__law_any_text : Is K "_law_any_text" "_law_any_text" s__law_any_text (He.ga K "_law_any_text")
  g__law_own : mg "_law_own" = some (.ref (He.ga K "_law_own"))
  f__law_own : Is K "_law_own" "_law_own" s__law_own (He.ga K "_law_own")
  g__law_beneath : mg "_law_beneath" = some (.ref (He.ga K "_law_beneath"))
  f__law_beneath : Is K "_law_beneath" "_law_beneath" s__law_beneath (He.ga K "_law_beneath")
  g__law_above : mg "_law_above" = some (.ref (He.ga K "_law_above"))
  f__law_above : Is K "_law_above" "_law_above" s__law_above (He.ga K "_law_above")
  g__law_points : mg "_law_points" = some (.ref (He.ga K "_law_points"))
  f__law_points : Is K "_law_points" "_law_points" s__law_points (He.ga K "_law_points")
  g__law_say : mg "_law_say" = some (.ref (He.ga K "_law_say"))
  f__law_say : Is K "_law_say" "_law_say" s__law_say (He.ga K "_law_say")
  g__law_strike : mg "_law_strike" = some (.ref (He.ga K "_law_strike"))
  f__law_strike : Is K "_law_strike" "_law_strike" s__law_strike (He.ga K "_law_strike")
  g__law_act : mg "_law_act" = some (.ref (He.ga K "_law_act"))
  f__law_act : Is K "_law_act" "_law_act" s__law_act (He.ga K "_law_act")
  g__law_deed : mg "_law_deed" = some (.ref (He.ga K "_law_deed"))
  f__law_deed : Is K "_law_deed" "_law_deed" s__law_deed (He.ga K "_law_deed")
  g__law_like : mg "_law_like" = some (.ref (He.ga K "_law_like"))
  f__law_like : Is K "_law_like" "_law_like" s__law_like (He.ga K "_law_like")
  g__law_one_like : mg "_law_one_like" = some (.ref (He.ga K "_law_one_like"))
  f__law_one_like : Is K "_law_one_like" "_law_one_like" s__law_one_like (He.ga K "_law_one_like")
  g__law_as_ledger : mg "_law_as_ledger" = some (.ref (He.ga K "_law_as_ledger"))
  f__law_as_ledger : Is K "_law_as_ledger" "_law_as_ledger" s__law_as_ledger (He.ga K "_law_as_ledger")
  g__law_own_copy : mg "_law_own_copy" = some (.ref (He.ga K "_law_own_copy"))
  f__law_own_copy : Is K "_law_own_copy" "_law_own_copy" s__law_own_copy (He.ga K "_law_own_copy")
  g__law_is_whole : mg "_law_is_whole" = some (.ref (He.ga K "_law_is_whole"))
  f__law_is_whole : Is K "_law_is_whole" "_law_is_whole" s__law_is_whole (He.ga K "_law_is_whole")
  g_law : mg "law" = some (.ref (He.ga K "law"))
  f_law : Is K "law" "law" s_law (He.ga K "law")
  b_ValueError : mg "ValueError" = none
  b_all : mg "all" = none
  b_bool : mg "bool" = none
  b_dict : mg "dict" = none
  b_int : mg "int" = none
  b_isinstance : mg "isinstance" = none
  b_len : mg "len" = none
  b_max : mg "max" = none
  b_min : mg "min" = none
  b_ord : mg "ord" = none
  b_range : mg "range" = none
  b_sorted : mg "sorted" = none
  b_str : mg "str" = none
  b_sum : mg "sum" = none
  b_tuple : mg "tuple" = none
  k_SMALL : GK mg "SMALL" (.str "abcdefghijklmnopqrstuvwxyz")
  k_MOST_WORD : GK mg "MOST_WORD" (.int 6)
  k_MOST_TEXT : GK mg "MOST_TEXT" (.int 30)
  k_MOST_SAYINGS : GK mg "MOST_SAYINGS" (.int 60)
  k_MOST_DEEP : GK mg "MOST_DEEP" (.int 8)
  k_MOST_TICKS : GK mg "MOST_TICKS" (.int 1000)
  k_BARRED : GK mg "BARRED" (.int 37)
  k_SIZES : GK mg "SIZES" (.ref (He.ga K "SIZES"))
  wd : Word K errs
  tb_law : LamX.TabB base mg (He.cT K ("law", none)).1 (He.cT K ("law", none)).2
  tn : ((tabs K).map (·.1)).Nodup
end Vw
namespace Vw
open PySem PySem.Spec PyProof.Rows L2
local macro_rules | `(tactic| walk_at "rd") => `(tactic| simp only [tSeq, tNext, tIfS, tAsg, tRet, tRetN, tDrop, tVar, tC, tOp, tUn, tTest, tB, tAnd, tOr, tNot, tAndV, tOrV, tNotV, tIf, tChain, tCB, tCons, tNil, tCall, tMeth, tMake, tFld, sFld, tTup, tLst, tTupS, tLstS, tDNewKS, tDNewTS, tTold, tCmp, t2I, tIsN, tNotN, tPar, gName, gNil, gCons, gTup, gSub, rI0, rU, rEq, rNe, tDGet, tDIn, tDNotIn, sDPut, tDNewK, tDGet1, tDGet2, tDPop1, tDPop2, tBM, tBM0, tM0, tM1, tSl, tPart, tNoPart, tBreak, tCont, tThru, L2.start, List.map_cons, List.map_nil, List.length_cons, List.length_nil, List.cons_append, List.nil_append, List.append_nil, List.replicate_succ, List.replicate_zero, Nat.reduceAdd, Nat.reduceSub, Nat.zero_add, List.getElem?_cons_zero, List.getElem?_cons_succ, List.set_cons_zero, List.set_cons_succ, wipe, cxOf_K, tYes, List.cons.injEq, and_self, Option.some.injEq, V.int.injEq, V.bl.injEq, V.ref.injEq, V.str.injEq, exists_eq_left', exists_eq_left, exists_and_left, and_assoc, true_and, and_true, if_true, if_false, ite_true, ite_false, Bool.not_true, Bool.not_false, Bool.false_eq_true, reduceIte])
/-! ### any data by its kind -/
def tyName : PyData → String
  | .none => "NoneType" | .bool _ => "bool" | .int _ => "int" | .str _ => "str" | .list _ => "list" | .tuple _ => "tuple" | .dict _ => "dict"
theorem dp_ty {K : PySem.W.Frag} {H : Hp} {x : V} {d : PyData} (h : Dp K H x d) : TyX K H x (.type (tyName d)) := by
  cases h with
  | non => exact .base .non
  | bl b => exact .base (.bl b)
  | int i => exact .base (.int i)
  | str z => exact .base (.str z)
  | lst hs _ =>
    rcases hs with (e | ⟨o, e⟩) | ⟨_, _, _, e, c, _⟩
    · exact .base (.lst e)
    · exact .base (.frz e)
    · exact .kList e c
  | tup hs _ =>
    rcases hs with (e | ⟨o, e⟩) | ⟨_, _, _, e, c, _⟩
    · exact .base (.tup e)
    · exact .fTuple e
    · exact .kTuple e c
def isIntD : PyData → Bool
  | .int _ => true | .bool _ => true | _ => false
def isBoolD : PyData → Bool
  | .bool _ => true | _ => false
def isStrD : PyData → Bool
  | .str _ => true | _ => false
theorem kit_int (d : PyData) : kitB (tyName d) "int" = some (isIntD d) := by
  cases d with
  | none => exact (show kitB "NoneType" "int" = some false by decide +kernel)
  | bool b => exact (show kitB "bool" "int" = some true by decide +kernel)
  | int i => exact (show kitB "int" "int" = some true by decide +kernel)
  | str z => exact (show kitB "str" "int" = some false by decide +kernel)
  | list z => exact (show kitB "list" "int" = some false by decide +kernel)
  | tuple z => exact (show kitB "tuple" "int" = some false by decide +kernel)
  | dict z => exact (show kitB "dict" "int" = some false by decide +kernel)
theorem kit_bool (d : PyData) : kitB (tyName d) "bool" = some (isBoolD d) := by
  cases d with
  | none => exact (show kitB "NoneType" "bool" = some false by decide +kernel)
  | bool b => exact (show kitB "bool" "bool" = some true by decide +kernel)
  | int i => exact (show kitB "int" "bool" = some false by decide +kernel)
  | str z => exact (show kitB "str" "bool" = some false by decide +kernel)
  | list z => exact (show kitB "list" "bool" = some false by decide +kernel)
  | tuple z => exact (show kitB "tuple" "bool" = some false by decide +kernel)
  | dict z => exact (show kitB "dict" "bool" = some false by decide +kernel)
theorem kit_str (d : PyData) : kitB (tyName d) "str" = some (isStrD d) := by
  cases d with
  | none => exact (show kitB "NoneType" "str" = some false by decide +kernel)
  | bool b => exact (show kitB "bool" "str" = some false by decide +kernel)
  | int i => exact (show kitB "int" "str" = some false by decide +kernel)
  | str z => exact (show kitB "str" "str" = some true by decide +kernel)
  | list z => exact (show kitB "list" "str" = some false by decide +kernel)
  | tuple z => exact (show kitB "tuple" "str" = some false by decide +kernel)
  | dict z => exact (show kitB "dict" "str" = some false by decide +kernel)
theorem use_isi {K : PySem.W.Frag} {H : Hp} {x : V} {d : PyData} {t : String} {b : Bool} {Q : VK} (hx : Dp K H x d) (hb : kitB (tyName d) t = some b) (q : Q (.bl b) H) : rIsi K [x, .ty t] H Q :=
  ⟨x, .ty t, _, _, b, rfl, .ty t, dp_ty hx, kit_ty hb, q⟩
/-! ### is_count -/
def spIsCount (K : PySem.W.Frag) : Sp := fun vs H Q _ => ∃ (x : V) (d : PyData) (lo hi : Int), vs = [x, .int lo, .int hi] ∧ Dp K H x d ∧ Q (.bl (isCount d lo hi)) H
section
variable {P : Program} {w : World} {K : PySem.W.Frag} {mg : Str → Option Value} {base : Heap}
abbrev N_is_count : List Str := ["thing", "low", "high"]
theorem sc_is_count : FnScope N_is_count ["thing", "low", "high"] (defScope s_is_count) := ⟨rfl, rfl, rfl, by decide +kernel, rfl, by decide +kernel, by decide +kernel⟩
theorem be_is_count : BindEq "is_count" "is_count" s_is_count ["thing", "low", "high"] := fun _ _ _ _ _ _ us hl => match us, hl with | [_, _, _], _ => rfl
theorem D_is_count (T : Txt K mg base) : Def P w K mg base 1 (He.ga K "is_count") ["thing", "low", "high"] (spIsCount K) := by
  refine mk_def T.f_is_count sc_is_count be_is_count (fun vs H Q E h => ?_) (fun cdv A outer s H vs Q E hr h => ?_)
  · obtain ⟨x, d, lo, hi, rfl, _⟩ := h
    rfl
  · obtain ⟨x, d, lo, hi, rfl, hx, q⟩ := h
    refine ⟨_, (pss_one (ps_ret (pe_and (pe_callB call_isi (by rfl) T.b_isinstance (by decide +kernel) (pa_cons (pv 0) (pa_cons (pe_bltn (v := .ty "int") (by rfl) T.b_int (by decide +kernel) rfl) pa_nil))) (pe_and (pe_not (pe_callB call_isi (by rfl) T.b_isinstance (by decide +kernel) (pa_cons (pv 0) (pa_cons (pe_bltn (v := .ty "bool") (by rfl) T.b_bool (by decide +kernel) rfl) pa_nil)))) (pe_one (pe_chain op_le op_le (pv 1) (pv 0) (pv 2))))))), ?_⟩
    walk_at "rd"
    refine use_isi hx (kit_int d) ⟨_, rfl, ?_⟩
    cases hx with
    | int i =>
      refine iteT (use_isi (.int i) (kit_bool _) ⟨_, rfl, iteT ⟨_, rfl, ?_⟩⟩)
      by_cases h1 : lo ≤ i
      · rw [decide_eq_true h1]
        refine iteT ⟨_, rfl, ?_⟩
        simpa [isCount, h1] using q
      · rw [decide_eq_false h1]
        refine iteF ?_
        simpa [isCount, h1] using q
    | bl b => exact iteT (use_isi (.bl b) (kit_bool _) ⟨_, rfl, iteF q⟩)
    | non => exact iteF q
    | str z => exact iteF q
    | lst _ _ => exact iteF q
    | tup _ _ => exact iteF q
/-! ### need_name, need_text -/
def spNeedName (K : PySem.W.Frag) : Sp := fun vs H Q E => ∃ (x : V) (d : PyData), vs = [x] ∧ Dp K H x d ∧ Short d ∧
  (nameOk d = true → ∀ H', Same H H' → Q .non H') ∧ (nameOk d = false → ∀ H', Same H H' → Bad K E .name H')
abbrev N_need_name : List Str := ["thing", "good", "sign"]
theorem sc_need_name : FnScope N_need_name ["thing"] (defScope s_need_name) := ⟨rfl, rfl, rfl, by decide +kernel, rfl, by decide +kernel, by decide +kernel⟩
theorem be_need_name : BindEq "need_name" "need_name" s_need_name ["thing"] := fun _ _ _ _ _ _ us hl => match us, hl with | [_], _ => rfl
theorem D_need_name (T : Txt K mg base) : Def P w K mg base 1 (He.ga K "need_name") ["thing"] (spNeedName K) := by
  refine mk_def T.f_need_name sc_need_name be_need_name (fun vs H Q E h => ?_) (fun cdv A outer s H vs Q E hr h => ?_)
  · obtain ⟨x, d, rfl, _⟩ := h
    rfl
  · obtain ⟨x, d, rfl, hx, hz, k1, k0⟩ := h
    refine ⟨_, (pss_cons (ps_set (i := 1) sc_need_name.nd rfl (Or.inl rfl) (pe_and (pe_callB call_isi (by rfl) T.b_isinstance (by decide +kernel) (pa_cons (pv 0) (pa_cons (pe_bltn (v := .ty "str") (by rfl) T.b_str (by decide +kernel) rfl) pa_nil))) (pe_one (pe_chain op_le op_le pe_int (pe_callB call_len_str (by rfl) T.b_len (by decide +kernel) (pa_cons (pv 0) pa_nil)) (pe_gk T.k_MOST_WORD)))))
      (pss_one (ps_if (PW.pt (pw_or (pt_not (pt_val (pv 1))) (pw_or1 (pt_not (pt_val (pe_callB (cr_all rfl) (by rfl) T.b_all (by decide +kernel) (pa_cons (pe_lc (own := [("sign", 2)]) (g := gName 2) rfl sc_need_name.nd (pi_str (pv 0)) (blkOk_by (N := N_need_name) (sc := defScope s_need_name) (by decide +kernel)) (fun _ _ _ _ _ => by exact (pg_name (i := 2) sc_need_name.nd rfl (Or.inl rfl))) (fun _ _ _ _ _ => pts_nil) (fun _ _ _ _ _ => by exact (pe_cmpR op_in_sign (pv 2) (pe_gk T.k_SMALL) rfl))) pa_nil))))))) (pss_one (ps_rs T.x_BadName)) pss_nil))), ?_⟩
    walk_at "rd"
    refine use_isi hx (kit_str d) ⟨_, rfl, ?_⟩
    have k0' : nameOk d = false → Bad K E .name H := fun h => k0 h H (Same.refl H)
    cases hx with
    | str z =>
      have hz : z.length < sizeLine := hz
      refine iteT ⟨_, rfl, Nat.le_of_lt hz, ?_⟩
      by_cases h1 : 1 ≤ (z.length : Int)
      · rw [decide_eq_true h1]
        refine iteT ?_
        by_cases h6 : (z.length : Int) ≤ 6
        · rw [decide_eq_true h6]
          refine iteF ?_
          refine lcS (z := z) (fun c => some (.bl (decide (c ∈ small)))) (fun R r => ⟨_, rfl, r⟩) hz (fun c H' _ s1 N1 N0 k1 k0 => ?_) (fun D H' hD s1 e => ?_)
          · walk_at "rd"
            exact ⟨_, rfl, k1 _ _ (Same.refl _) rfl⟩
          · refine ⟨D, z.cps.toList.map fun c => decide (c ∈ small), rfl, SqL.of ?_, ?_⟩
            · rw [e, List.filterMap_eq_map', List.map_map]
              rfl
            · refine ⟨_, rfl, ?_⟩
              have ea : nameOk (.str z) = (z.cps.toList.map fun c => decide (c ∈ small)).all id := by
                have h1' : 1 ≤ z.length := by omega
                have h6' : z.length ≤ 6 := by omega
                simp [nameOk, nameZ, h1', h6', List.all_map, Function.comp_def]
              rw [← ea]
              cases en : nameOk (.str z) with
              | true => exact iteF (k1 en H' s1)
              | false => exact iteT (k0 en H' s1)
        · rw [decide_eq_false h6]
          refine iteT (k0' ?_)
          have h6' : ¬ z.length ≤ 6 := by omega
          simp [nameOk, nameZ, h6']
      · rw [decide_eq_false h1]
        refine iteF (k0' ?_)
        have h1' : ¬ 1 ≤ z.length := by omega
        simp [nameOk, nameZ, h1']
    | int i => exact iteF (k0' rfl)
    | bl b => exact iteF (k0' rfl)
    | non => exact iteF (k0' rfl)
    | lst _ _ => exact iteF (k0' rfl)
    | tup _ _ => exact iteF (k0' rfl)
def spNeedText (K : PySem.W.Frag) : Sp := fun vs H Q E => ∃ (x : V) (d : PyData), vs = [x] ∧ Dp K H x d ∧ Short d ∧
  (textOk d = true → ∀ H', Same H H' → Q .non H') ∧ (textOk d = false → ∀ H', Same H H' → Bad K E .text H')
theorem lt1 (a b : Nat) : decide (([a] : List Nat) < [b]) = decide (a < b) := by
  have : (([a] : List Nat) < [b]) ↔ a < b := by
    rw [List.cons_lt_cons_iff]
    simp
  simp [this]
theorem sp32 : (Str.ofString " ").cps.toList = [32] := by decide +kernel
theorem ti126 : (Str.ofString "~").cps.toList = [126] := by decide +kernel
abbrev N_need_text : List Str := ["thing", "good", "sign"]
theorem sc_need_text : FnScope N_need_text ["thing"] (defScope s_need_text) := ⟨rfl, rfl, rfl, by decide +kernel, rfl, by decide +kernel, by decide +kernel⟩
theorem be_need_text : BindEq "need_text" "need_text" s_need_text ["thing"] := fun _ _ _ _ _ _ us hl => match us, hl with | [_], _ => rfl
theorem D_need_text (T : Txt K mg base) : Def P w K mg base 1 (He.ga K "need_text") ["thing"] (spNeedText K) := by
  refine mk_def T.f_need_text sc_need_text be_need_text (fun vs H Q E h => ?_) (fun cdv A outer s H vs Q E hr h => ?_)
  · obtain ⟨x, d, rfl, _⟩ := h
    rfl
  · obtain ⟨x, d, rfl, hx, hz, k1, k0⟩ := h
    refine ⟨_, (pss_cons (ps_set (i := 1) sc_need_text.nd rfl (Or.inl rfl) (pe_and (pe_callB call_isi (by rfl) T.b_isinstance (by decide +kernel) (pa_cons (pv 0) (pa_cons (pe_bltn (v := .ty "str") (by rfl) T.b_str (by decide +kernel) rfl) pa_nil))) (pe_one (pe_chain op_le op_le pe_int (pe_callB call_len_str (by rfl) T.b_len (by decide +kernel) (pa_cons (pv 0) pa_nil)) (pe_gk T.k_MOST_TEXT)))))
      (pss_one (ps_if (PW.pt (pw_or (pt_not (pt_val (pv 1))) (pw_or1 (pt_not (pt_val (pe_callB (cr_all rfl) (by rfl) T.b_all (by decide +kernel) (pa_cons (pe_lc (own := [("sign", 2)]) (g := gName 2) rfl sc_need_text.nd (pi_str (pv 0)) (blkOk_by (N := N_need_text) (sc := defScope s_need_text) (by decide +kernel)) (fun _ _ _ _ _ => by exact (pg_name (i := 2) sc_need_text.nd rfl (Or.inl rfl))) (fun _ _ _ _ _ => pts_nil) (fun _ _ _ _ _ => by exact (pe_and (pe_chain op_le_str op_le_str pe_str (pv 2) pe_str) (pe_one (pe_cmpR op_ne (pe_callB call_ord (by rfl) T.b_ord (by decide +kernel) (pa_cons (pv 2) pa_nil)) (pe_gk T.k_BARRED) (nomark _)))))) pa_nil))))))) (pss_one (ps_rs T.x_BadText)) pss_nil))), ?_⟩
    walk_at "rd"
    refine use_isi hx (kit_str d) ⟨_, rfl, ?_⟩
    have k0' : textOk d = false → Bad K E .text H := fun h => k0 h H (Same.refl H)
    cases hx with
    | str z =>
      have hz : z.length < sizeLine := hz
      refine iteT ⟨_, rfl, Nat.le_of_lt hz, ?_⟩
      by_cases h1 : 1 ≤ (z.length : Int)
      · rw [decide_eq_true h1]
        refine iteT ?_
        by_cases h6 : (z.length : Int) ≤ 30
        · rw [decide_eq_true h6]
          refine iteF ?_
          refine lcS (z := z) (fun c => some (.bl (signOk c))) (fun R r => ⟨_, rfl, r⟩) hz (fun c H' _ s1 N1 N0 k1 k0 => ?_) (fun D H' hD s1 e => ?_)
          · walk_at "rd"
            rw [sp32, ti126, lt1, lt1]
            by_cases a1 : c < 32
            · rw [decide_eq_true a1]
              refine iteF (k1 _ _ (Same.refl _) ?_)
              have : ¬ 32 ≤ c := by omega
              simp [signOk, this]
            · rw [decide_eq_false a1]
              refine iteT ?_
              by_cases a2 : 126 < c
              · rw [decide_eq_true a2]
                refine iteF (k1 _ _ (Same.refl _) ?_)
                have : ¬ c ≤ 126 := by omega
                simp [signOk, this]
              · rw [decide_eq_false a2]
                refine iteT ⟨rfl, rfl, k1 _ _ (Same.refl _) ?_⟩
                have h32 : 32 ≤ c := by omega
                have h126 : c ≤ 126 := by omega
                have e37 : decide (((#[c].getD 0 0 : Nat) : Int) = 37) = decide (c = 37) := by
                  have : (#[c].getD 0 0 : Nat) = c := rfl
                  rw [this]
                  by_cases hc : c = 37
                  · simp [hc]
                  · have : ¬ ((c : Int) = 37) := by omega
                    simp [hc, this]
                rw [e37]
                simp [signOk, h32, h126]
          · refine ⟨D, z.cps.toList.map signOk, rfl, SqL.of ?_, ?_⟩
            · rw [e, List.filterMap_eq_map', List.map_map]
              rfl
            · refine ⟨_, rfl, ?_⟩
              have ea : textOk (.str z) = (z.cps.toList.map signOk).all id := by
                have h1' : 1 ≤ z.length := by omega
                have h6' : z.length ≤ 30 := by omega
                simp [textOk, textZ, h1', h6', List.all_map, Function.comp_def]
              rw [← ea]
              cases en : textOk (.str z) with
              | true => exact iteF (k1 en H' s1)
              | false => exact iteT (k0 en H' s1)
        · rw [decide_eq_false h6]
          refine iteT (k0' ?_)
          have h6' : ¬ z.length ≤ 30 := by omega
          simp [textOk, textZ, h6']
      · rw [decide_eq_false h1]
        refine iteF (k0' ?_)
        have h1' : ¬ 1 ≤ z.length := by omega
        simp [textOk, textZ, h1']
    | int i => exact iteF (k0' rfl)
    | bl b => exact iteF (k0' rfl)
    | non => exact iteF (k0' rfl)
    | lst _ _ => exact iteF (k0' rfl)
    | tup _ _ => exact iteF (k0' rfl)
end
end Vw
namespace Vw
open PySem PySem.Spec PyProof.Rows L2
local macro_rules | `(tactic| walk_at "rd") => `(tactic| simp only [tSeq, tNext, tIfS, tAsg, tRet, tRetN, tDrop, tVar, tC, tOp, tUn, tTest, tB, tAnd, tOr, tNot, tAndV, tOrV, tNotV, tIf, tChain, tCB, tCons, tNil, tCall, tMeth, tMake, tFld, sFld, tTup, tLst, tTupS, tLstS, tDNewKS, tDNewTS, tTold, tCmp, t2I, tIsN, tNotN, tPar, gName, gNil, gCons, gTup, gSub, rI0, rU, rEq, rNe, tDGet, tDIn, tDNotIn, sDPut, tDNewK, tDGet1, tDGet2, tDPop1, tDPop2, tBM, tBM0, tM0, tM1, tSl, tPart, tNoPart, tBreak, tCont, tThru, L2.start, List.map_cons, List.map_nil, List.length_cons, List.length_nil, List.cons_append, List.nil_append, List.append_nil, List.replicate_succ, List.replicate_zero, Nat.reduceAdd, Nat.reduceSub, Nat.zero_add, List.getElem?_cons_zero, List.getElem?_cons_succ, List.set_cons_zero, List.set_cons_succ, wipe, cxOf_K, tYes, List.cons.injEq, and_self, Option.some.injEq, V.int.injEq, V.bl.injEq, V.ref.injEq, V.str.injEq, exists_eq_left', exists_eq_left, exists_and_left, and_assoc, true_and, and_true, if_true, if_false, ite_true, ite_false, Bool.not_true, Bool.not_false, Bool.false_eq_true, reduceIte])
/-! ### a saying in the heap -/
abbrev cS (K : PySem.W.Frag) : Addr := He.ga K "Saying"
abbrev cW (K : PySem.W.Frag) : Addr := He.ga K "Wood"
def voteK (p : Str × Int) : Key × V := (Sum.inr p.1, .int p.2)
def votesK (vs : List (Str × Int)) : List (Key × V) := vs.map voteK
structure SayAt (K : PySem.W.Frag) (H : Hp) (a x v : Addr) (r : Row) : Prop where
  o : H a = some (.ins (cS K) x (sayFs r v))
  d : H v = some (.dK (votesK r.votes))
  nd : (r.votes.map (·.1)).Nodup
  sz : r.votes.length < 100000
theorem SayAt.same {K : PySem.W.Frag} {H H' : Hp} {a x v : Addr} {r : Row} (S : SayAt K H a x v r) (s : Same H H') : SayAt K H' a x v r := ⟨s _ _ S.o, s _ _ S.d, S.nd, S.sz⟩
theorem fld {K : PySem.W.Frag} {H : Hp} {a C dx : Addr} {fs : List (Str × V)} {f : Str} {v : V} {R : V → Prop} (h : H a = some (.ins C dx fs)) (hc : Cls K C) (hn : NoAttr K C f) (hl : fs.lookup f = some v) (q : R v) :
    ∃ C dx fs, H a = some (.ins C dx fs) ∧ Cls K C ∧ NoAttr K C f ∧ ∃ v, fs.lookup f = some v ∧ R v := ⟨_, _, _, h, hc, hn, _, hl, q⟩
section
variable {K : PySem.W.Frag} {mg : Str → Option Value} {base : Heap} {H : Hp} {a x v : Addr} {r : Row} {R : V → Prop}
theorem SayAt.fby (S : SayAt K H a x v r) (T : Txt K mg base) (q : R (.str r.who)) : ∃ C dx fs, H a = some (.ins C dx fs) ∧ Cls K C ∧ NoAttr K C "by" ∧ ∃ v, fs.lookup (Str.ofString "by") = some v ∧ R v := fld S.o T.c_Saying.c T.n_Saying_by (fs_by _ _) q
theorem SayAt.funder (S : SayAt K H a x v r) (T : Txt K mg base) (q : R (.int r.under)) : ∃ C dx fs, H a = some (.ins C dx fs) ∧ Cls K C ∧ NoAttr K C "under" ∧ ∃ v, fs.lookup (Str.ofString "under") = some v ∧ R v := fld S.o T.c_Saying.c T.n_Saying_under (fs_under _ _) q
theorem SayAt.ftext (S : SayAt K H a x v r) (T : Txt K mg base) (q : R (.str r.text)) : ∃ C dx fs, H a = some (.ins C dx fs) ∧ Cls K C ∧ NoAttr K C "text" ∧ ∃ v, fs.lookup (Str.ofString "text") = some v ∧ R v := fld S.o T.c_Saying.c T.n_Saying_text (fs_text _ _) q
theorem SayAt.ftime (S : SayAt K H a x v r) (T : Txt K mg base) (q : R (.int r.time)) : ∃ C dx fs, H a = some (.ins C dx fs) ∧ Cls K C ∧ NoAttr K C "time" ∧ ∃ v, fs.lookup (Str.ofString "time") = some v ∧ R v := fld S.o T.c_Saying.c T.n_Saying_time (fs_time _ _) q
theorem SayAt.fvotes (S : SayAt K H a x v r) (T : Txt K mg base) (q : R (.ref v)) : ∃ C dx fs, H a = some (.ins C dx fs) ∧ Cls K C ∧ NoAttr K C "votes" ∧ ∃ v, fs.lookup (Str.ofString "votes") = some v ∧ R v := fld S.o T.c_Saying.c T.n_Saying_votes (fs_votes _ _) q
theorem SayAt.fstruck (S : SayAt K H a x v r) (T : Txt K mg base) (q : R (.bl r.struck)) : ∃ C dx fs, H a = some (.ins C dx fs) ∧ Cls K C ∧ NoAttr K C "is_struck" ∧ ∃ v, fs.lookup (Str.ofString "is_struck") = some v ∧ R v := fld S.o T.c_Saying.c T.n_Saying_is_struck (fs_struck _ _) q
end
theorem votes_at {vs : List (Str × Int)} (nd : (vs.map (·.1)).Nodup) {p : Str × Int} (hp : p ∈ vs) : valV (votesK vs) (Sum.inr p.1) = some (.int p.2) := by
  induction vs with
  | nil => cases hp
  | cons q r ih =>
    simp only [List.map_cons, List.nodup_cons] at nd
    rcases List.mem_cons.mp hp with rfl | hp
    · exact valV_pos rfl
    · have h : ¬ (Sum.inr q.1 : Key) = Sum.inr p.1 := fun e => nd.1 (List.mem_map.mpr ⟨p, hp, (Sum.inr.inj e).symm⟩)
      show valV (voteK q :: votesK r) _ = _
      rw [valV_neg h]
      exact ih nd.2 hp
theorem len_if {l : List (Str × Int)} {c : Str × Int → Prop} [DecidablePred c] {f : Str × Int → V} : (l.filterMap fun p => if c p then some (f p) else none).length = (l.filter fun p => decide (c p)).length := by
  induction l with
  | nil => rfl
  | cons a r ih =>
    by_cases h : c a
    · simp [List.filterMap_cons, List.filter_cons, h, ih]
    · simp [List.filterMap_cons, List.filter_cons, h, ih]
section
variable {P : Program} {w : World} {K : PySem.W.Frag} {mg : Str → Option Value} {base : Heap}
/-! ### Saying.__init__ -/
def spSayInit (K : PySem.W.Frag) : Sp := fun vs H Q _ => ∃ (a x : Addr) (who text : Str) (under time : Int), vs = [.ref a, .str who, .int under, .str text, .int time] ∧ H a = some (.ins (cS K) x []) ∧
  ∀ v H', H v = none → SayAt K H' a x v ⟨who, under, text, time, [], false⟩ → (∀ b o, b ≠ a → H b = some o → H' b = some o) → Q .non H'
abbrev N_Saying___init__ : List Str := ["self", "by", "under", "text", "time"]
theorem sc_Saying___init__ : FnScope N_Saying___init__ ["self", "by", "under", "text", "time"] (defScope s_Saying___init__) := ⟨rfl, rfl, rfl, by decide +kernel, rfl, by decide +kernel, by decide +kernel⟩
theorem be_Saying___init__ : BindEq "__init__" "Saying.__init__" s_Saying___init__ ["self", "by", "under", "text", "time"] := fun _ _ _ _ _ _ us hl => match us, hl with | [_, _, _, _, _], _ => rfl
theorem D_Saying___init__ (T : Txt K mg base) : Def P w K mg base 1 (He.ma K (He.ga K "Saying") "__init__") ["self", "by", "under", "text", "time"] (spSayInit K) := by
  refine mk_def T.f_Saying___init__ sc_Saying___init__ be_Saying___init__ (fun vs H Q E h => ?_) (fun cdv A outer s H vs Q E hr h => ?_)
  · obtain ⟨a, x, who, text, under, time, rfl, _⟩ := h
    rfl
  · obtain ⟨a, x, who, text, under, time, rfl, ha, k⟩ := h
    refine ⟨_, (pss_cons (ps_fld (pv 0) (pv 1) (by rfl))
      (pss_cons (ps_fld (pv 0) (pv 2) (by rfl))
      (pss_cons (ps_fld (pv 0) (pv 3) (by rfl))
      (pss_cons (ps_fld (pv 0) (pv 4) (by rfl))
      (pss_cons (ps_fld (pv 0) pe_dnewK (by rfl))
      (pss_one (ps_fld (pv 0) pe_bl (by rfl)))))))), ?_⟩
    walk_at "rd"
    refine ⟨_, _, _, ha, T.c_Saying.c, T.n_Saying_by, by decide, _, _, _, upd_same, T.c_Saying.c, T.n_Saying_under, by simp [putF], _, _, _, upd_same, T.c_Saying.c, T.n_Saying_text, by simp [putF, ofString_inj], _, _, _, upd_same, T.c_Saying.c, T.n_Saying_time, by simp [putF, ofString_inj], fun v hv => ?_⟩
    simp only [upd_upd] at hv ⊢
    have nva : v ≠ a := fun z => by
      rw [z, upd_same] at hv
      cases hv
    refine ⟨_, _, _, by rw [upd_ne nva.symm, upd_same], T.c_Saying.c, T.n_Saying_votes, by simp [putF, ofString_inj], _, _, _, upd_same, T.c_Saying.c, T.n_Saying_is_struck, by simp [putF, ofString_inj], ?_⟩
    refine k v _ (by rw [upd_ne nva] at hv; exact hv) ⟨?_, ?_, List.nodup_nil, by show 0 < 100000; decide⟩ (fun b o hb e => ?_)
    · rw [upd_same]
      simp [putF, ofString_inj, sayFs]
    · rw [upd_ne nva, upd_same]
      rfl
    · have nbv : b ≠ v := fun z => by
        rw [z] at e
        rw [upd_ne nva, e] at hv
        cases hv
      rw [upd_ne hb, upd_ne nbv, upd_ne hb]
      exact e
/-! ### Saying.ups, downs, points -/
def spUps (K : PySem.W.Frag) (f : Row → Int) : Sp := fun vs H Q _ => ∃ (a x v : Addr) (r : Row), vs = [.ref a] ∧ SayAt K H a x v r ∧ ∀ H', Same H H' → Q (.int (f r)) H'
abbrev N_Saying_ups : List Str := ["self", "name"]
theorem sc_Saying_ups : FnScope N_Saying_ups ["self"] (defScope s_Saying_ups) := ⟨rfl, rfl, rfl, by decide +kernel, rfl, by decide +kernel, by decide +kernel⟩
theorem be_Saying_ups : BindEq "ups" "Saying.ups" s_Saying_ups ["self"] := fun _ _ _ _ _ _ us hl => match us, hl with | [_], _ => rfl
theorem D_Saying_ups (T : Txt K mg base) : Def P w K mg base 1 (He.ma K (He.ga K "Saying") "ups") ["self"] (spUps K Row.ups) := by
  refine mk_def T.f_Saying_ups sc_Saying_ups be_Saying_ups (fun vs H Q E h => ?_) (fun cdv A outer s H vs Q E hr h => ?_)
  · obtain ⟨a, x, v, r, rfl, _⟩ := h
    rfl
  · obtain ⟨a, x, v, r, rfl, S, k⟩ := h
    refine ⟨_, (pss_one (ps_ret (pe_callB call_len_seq (by rfl) T.b_len (by decide +kernel) (pa_cons (pe_lock (pe_lc (own := [("name", 1)]) (g := gName 1) rfl sc_Saying_ups.nd (pi_keys (pe_fld (pv 0) (by rfl))) (blkOk_by (N := N_Saying_ups) (sc := defScope s_Saying_ups) (by decide +kernel)) (fun _ _ _ _ _ => by exact (pg_name (i := 1) sc_Saying_ups.nd rfl (Or.inl rfl))) (fun _ _ _ _ _ => by exact (pts_one (pt_cmpR op_gt (pe_dg (pe_fldK K (pv 0)) (pv 1) (by exact hu_of hr)) pe_int (nomark _)))) (fun _ _ _ _ _ => by exact (pv 1)))) pa_nil)))), ?_⟩
    walk_at "rd"
    have nav : a ≠ v := ne_of S.o S.d (by intro q; cases q)
    have nd := S.nd
    refine lcK (l := r.votes) (d := v) voteK (fun p => if 0 < p.2 then some (.str p.1) else none) S.d (fun H' R hk q => ?_) (by have := S.sz; rw [sizeLine_eq]; omega) (fun p H' od hp hk hv N1 N0 k1 k0 => ?_) (fun D H' hD s1 e => ?_)
    · walk_at "rd"
      exact fld (hk _ _ nav S.o) T.c_Saying.c T.n_Saying_votes (fs_votes _ _) q
    · walk_at "rd"
      refine fld (hk _ _ nav S.o) T.c_Saying.c T.n_Saying_votes (fs_votes _ _) ⟨_, rfl, _, .inl ⟨_, _, .inr ⟨_, hv⟩, rfl, (votes_at nd hp).symm⟩, _, rfl, ?_⟩
      by_cases c : 0 < p.2
      · rw [decide_eq_true c]
        exact iteT (k1 _ _ (Same.refl _) (if_pos c))
      · rw [decide_eq_false c]
        exact iteF (k0 _ (Same.refl _) (if_neg c))
    · refine ⟨_, rfl, _, .inl (SqL.of e), ?_⟩
      rw [len_if]
      exact k H' s1
abbrev N_Saying_downs : List Str := ["self", "name"]
theorem sc_Saying_downs : FnScope N_Saying_downs ["self"] (defScope s_Saying_downs) := ⟨rfl, rfl, rfl, by decide +kernel, rfl, by decide +kernel, by decide +kernel⟩
theorem be_Saying_downs : BindEq "downs" "Saying.downs" s_Saying_downs ["self"] := fun _ _ _ _ _ _ us hl => match us, hl with | [_], _ => rfl
theorem D_Saying_downs (T : Txt K mg base) : Def P w K mg base 1 (He.ma K (He.ga K "Saying") "downs") ["self"] (spUps K Row.downs) := by
  refine mk_def T.f_Saying_downs sc_Saying_downs be_Saying_downs (fun vs H Q E h => ?_) (fun cdv A outer s H vs Q E hr h => ?_)
  · obtain ⟨a, x, v, r, rfl, _⟩ := h
    rfl
  · obtain ⟨a, x, v, r, rfl, S, k⟩ := h
    refine ⟨_, (pss_one (ps_ret (pe_callB call_len_seq (by rfl) T.b_len (by decide +kernel) (pa_cons (pe_lock (pe_lc (own := [("name", 1)]) (g := gName 1) rfl sc_Saying_downs.nd (pi_keys (pe_fld (pv 0) (by rfl))) (blkOk_by (N := N_Saying_downs) (sc := defScope s_Saying_downs) (by decide +kernel)) (fun _ _ _ _ _ => by exact (pg_name (i := 1) sc_Saying_downs.nd rfl (Or.inl rfl))) (fun _ _ _ _ _ => by exact (pts_one (pt_cmpR op_lt (pe_dg (pe_fldK K (pv 0)) (pv 1) (by exact hu_of hr)) pe_int (nomark _)))) (fun _ _ _ _ _ => by exact (pv 1)))) pa_nil)))), ?_⟩
    walk_at "rd"
    have nav : a ≠ v := ne_of S.o S.d (by intro q; cases q)
    have nd := S.nd
    refine lcK (l := r.votes) (d := v) voteK (fun p => if p.2 < 0 then some (.str p.1) else none) S.d (fun H' R hk q => ?_) (by have := S.sz; rw [sizeLine_eq]; omega) (fun p H' od hp hk hv N1 N0 k1 k0 => ?_) (fun D H' hD s1 e => ?_)
    · walk_at "rd"
      exact fld (hk _ _ nav S.o) T.c_Saying.c T.n_Saying_votes (fs_votes _ _) q
    · walk_at "rd"
      refine fld (hk _ _ nav S.o) T.c_Saying.c T.n_Saying_votes (fs_votes _ _) ⟨_, rfl, _, .inl ⟨_, _, .inr ⟨_, hv⟩, rfl, (votes_at nd hp).symm⟩, _, rfl, ?_⟩
      by_cases c : p.2 < 0
      · rw [decide_eq_true c]
        exact iteT (k1 _ _ (Same.refl _) (if_pos c))
      · rw [decide_eq_false c]
        exact iteF (k0 _ (Same.refl _) (if_neg c))
    · refine ⟨_, rfl, _, .inl (SqL.of e), ?_⟩
      rw [len_if]
      exact k H' s1
abbrev N_Saying_points : List Str := ["self"]
theorem sc_Saying_points : FnScope N_Saying_points ["self"] (defScope s_Saying_points) := ⟨rfl, rfl, rfl, by decide +kernel, rfl, by decide +kernel, by decide +kernel⟩
theorem be_Saying_points : BindEq "points" "Saying.points" s_Saying_points ["self"] := fun _ _ _ _ _ _ us hl => match us, hl with | [_], _ => rfl
theorem D_Saying_points (T : Txt K mg base) : Def P w K mg base 2 (He.ma K (He.ga K "Saying") "points") ["self"] (spUps K Row.points) := by
  refine mk_def T.f_Saying_points sc_Saying_points be_Saying_points (fun vs H Q E h => ?_) (fun cdv A outer s H vs Q E hr h => ?_)
  · obtain ⟨a, x, v, r, rfl, _⟩ := h
    rfl
  · obtain ⟨a, x, v, r, rfl, S, k⟩ := h
    refine ⟨_, (pss_one (ps_ret (pe_op op_sub (pe_md0 (pv 0) T.c_Saying.c T.m_Saying_ups (D_Saying_ups T) (by exact hr.mono (by first | decide | omega)) passE) (pe_md0 (pv 0) T.c_Saying.c T.m_Saying_downs (D_Saying_downs T) (by exact hr.mono (by first | decide | omega)) passE)))), ?_⟩
    walk_at "rd"
    refine ⟨_, _, S.o, fs_ups _ _, a, x, v, r, rfl, S, fun H1 s1 => ?_⟩
    have S1 := S.same s1
    refine ⟨_, _, S1.o, fs_downs _ _, a, x, v, r, rfl, S1, fun H2 s2 => ?_⟩
    exact ⟨_, rfl, _, rfl, k H2 (s1.trans s2)⟩
end
end Vw
namespace Vw
open PySem PySem.Spec PyProof.Rows L2
local macro_rules | `(tactic| walk_at "rd") => `(tactic| simp only [tSeq, tNext, tIfS, tAsg, tRet, tRetN, tDrop, tVar, tC, tOp, tUn, tTest, tB, tAnd, tOr, tNot, tAndV, tOrV, tNotV, tIf, tChain, tCB, tCons, tNil, tCall, tMeth, tMake, tFld, sFld, tTup, tLst, tTupS, tLstS, tDNewKS, tDNewTS, tTold, tCmp, t2I, tIsN, tNotN, tPar, gName, gNil, gCons, gTup, gSub, rI0, rU, rEq, rNe, tDGet, tDIn, tDNotIn, sDPut, tDNewK, tDGet1, tDGet2, tDPop1, tDPop2, tBM, tBM0, tM0, tM1, tSl, tPart, tNoPart, tBreak, tCont, tThru, L2.start, List.map_cons, List.map_nil, List.length_cons, List.length_nil, List.cons_append, List.nil_append, List.append_nil, List.replicate_succ, List.replicate_zero, Nat.reduceAdd, Nat.reduceSub, Nat.zero_add, List.getElem?_cons_zero, List.getElem?_cons_succ, List.set_cons_zero, List.set_cons_succ, wipe, cxOf_K, tYes, List.cons.injEq, and_self, Option.some.injEq, V.int.injEq, V.bl.injEq, V.ref.injEq, V.str.injEq, exists_eq_left', exists_eq_left, exists_and_left, and_assoc, true_and, and_true, if_true, if_false, ite_true, ite_false, Bool.not_true, Bool.not_false, Bool.false_eq_true, reduceIte])
/-! ### a wood in the heap -/
structure Ent where
  n : Int
  row : Row
  a : Addr
  x : Addr
  v : Addr
structure Lay where
  p : Addr
  dx : Addr
  d : Addr
  ents : List Ent
  came : Int
  clock : Int
def entK (e : Ent) : Key × V := (Sum.inl e.n, .ref e.a)
structure WoodAt (K : PySem.W.Frag) (H : Hp) (L : Lay) : Prop where
  top : H L.p = some (.ins (cW K) L.dx (woodFs L.d L.came L.clock))
  dic : H L.d = some (.dK (L.ents.map entK))
  say : ∀ e ∈ L.ents, SayAt K H e.a e.x e.v e.row
  nk : (L.ents.map (·.n)).Nodup
  nda : (L.ents.map (·.a)).Nodup
  ndv : (L.ents.map (·.v)).Nodup
  dv : ∀ e ∈ L.ents, e.v ≠ L.d
  pa : ∀ e ∈ L.ents, e.a ≠ L.p
  sz : L.ents.length < 100000
theorem WoodAt.same {K : PySem.W.Frag} {H H' : Hp} {L : Lay} (W : WoodAt K H L) (s : Same H H') : WoodAt K H' L :=
  ⟨s _ _ W.top, s _ _ W.dic, fun e he => (W.say e he).same s, W.nk, W.nda, W.ndv, W.dv, W.pa, W.sz⟩
def findE (es : List Ent) (n : Int) : Option Ent := es.find? fun e => decide (e.n = n)
theorem findE_mem {es : List Ent} {n : Int} {e : Ent} (h : findE es n = some e) : e ∈ es ∧ e.n = n := ⟨List.mem_of_find?_eq_some h, by have := List.find?_some h; simpa using this⟩
theorem findE_of {es : List Ent} (nk : (es.map (·.n)).Nodup) {e : Ent} (he : e ∈ es) : findE es e.n = some e := by
  induction es with
  | nil => cases he
  | cons q r ih =>
    simp only [List.map_cons, List.nodup_cons] at nk
    unfold findE
    rw [List.find?_cons]
    rcases List.mem_cons.mp he with rfl | he
    · simp
    · have h : ¬ q.n = e.n := fun z => nk.1 (List.mem_map.mpr ⟨e, he, z.symm⟩)
      simp only [h, decide_false]
      exact ih nk.2 he
theorem valE (es : List Ent) (n : Int) : valV (es.map entK) (Sum.inl n) = (findE es n).map fun e => V.ref e.a := by
  induction es with
  | nil => rfl
  | cons q r ih =>
    unfold findE
    rw [List.map_cons, List.find?_cons]
    by_cases h : q.n = n
    · rw [valV_pos (show (entK q).1 = Sum.inl n from congrArg Sum.inl h)]
      simp [h, entK]
    · rw [valV_neg (show ¬ (entK q).1 = Sum.inl n from fun e => h (Sum.inl.inj e)), ih]
      simp only [h, decide_false]
      rfl
section
variable {K : PySem.W.Frag} {mg : Str → Option Value} {base : Heap} {H : Hp} {L : Lay} {R : V → Prop}
theorem WoodAt.fsay (W : WoodAt K H L) (T : Txt K mg base) (q : R (.ref L.d)) : ∃ C dx fs, H L.p = some (.ins C dx fs) ∧ Cls K C ∧ NoAttr K C "sayings" ∧ ∃ v, fs.lookup (Str.ofString "sayings") = some v ∧ R v := fld W.top T.c_Wood.c T.n_Wood_sayings (fw_sayings _ _ _) q
theorem WoodAt.fcame (W : WoodAt K H L) (T : Txt K mg base) (q : R (.int L.came)) : ∃ C dx fs, H L.p = some (.ins C dx fs) ∧ Cls K C ∧ NoAttr K C "came" ∧ ∃ v, fs.lookup (Str.ofString "came") = some v ∧ R v := fld W.top T.c_Wood.c T.n_Wood_came (fw_came _ _ _) q
theorem WoodAt.fclock (W : WoodAt K H L) (T : Txt K mg base) (q : R (.int L.clock)) : ∃ C dx fs, H L.p = some (.ins C dx fs) ∧ Cls K C ∧ NoAttr K C "clock" ∧ ∃ v, fs.lookup (Str.ofString "clock") = some v ∧ R v := fld W.top T.c_Wood.c T.n_Wood_clock (fw_clock _ _ _) q
/-- o[n], n there -/
theorem WoodAt.at {R : V → Prop} (W : WoodAt K H L) {n : Int} {e : Ent} (he : findE L.ents n = some e) (q : R (.ref e.a)) : ∃ a, V.ref L.d = V.ref a ∧ ∃ x, DGet H a (.int n) (some x) ∧ R x :=
  ⟨_, rfl, _, .inl ⟨_, Sum.inl n, .inl W.dic, rfl, by rw [valE, he]; rfl⟩, q⟩
end
def sortI (l : List Int) : List Int := l.mergeSort fun a b => decide (a ≤ b)
theorem sortI_perm (l : List Int) : (sortI l).Perm l := List.mergeSort_perm l _
theorem sortI_le (l : List Int) : (sortI l).Pairwise (· ≤ ·) := by
  have h := List.pairwise_mergeSort (le := fun a b : Int => decide (a ≤ b)) (by intro a b c h1 h2; simp only [decide_eq_true_eq] at *; omega) (by intro a b; simp only [Bool.or_eq_true, decide_eq_true_eq]; omega) l
  exact h.imp fun h => by simpa using h
theorem sortI_eq {a b : List Int} (hp : a.Perm b) (ha : a.Pairwise (· ≤ ·)) : a = sortI b := (hp.trans (sortI_perm b).symm).eq_of_pairwise (fun x y _ _ h1 h2 => Int.le_antisymm h1 h2) ha (sortI_le b)
theorem sortI_self {a : List Int} (ha : a.Pairwise (· ≤ ·)) : sortI a = a := (sortI_eq (List.Perm.refl a) ha).symm
theorem sortI_length (l : List Int) : (sortI l).length = l.length := (sortI_perm l).length_eq
section
variable {P : Program} {w : World} {K : PySem.W.Frag} {mg : Str → Option Value} {base : Heap}
/-! ### Wood.__init__, now, tick -/
def spWoodInit (K : PySem.W.Frag) : Sp := fun vs H Q _ => ∃ (p dx : Addr), vs = [.ref p] ∧ H p = some (.ins (cW K) dx []) ∧
  ∀ d H', H d = none → WoodAt K H' ⟨p, dx, d, [], 0, 0⟩ → (∀ b o, b ≠ p → H b = some o → H' b = some o) → Q .non H'
abbrev N_Wood___init__ : List Str := ["self"]
theorem sc_Wood___init__ : FnScope N_Wood___init__ ["self"] (defScope s_Wood___init__) := ⟨rfl, rfl, rfl, by decide +kernel, rfl, by decide +kernel, by decide +kernel⟩
theorem be_Wood___init__ : BindEq "__init__" "Wood.__init__" s_Wood___init__ ["self"] := fun _ _ _ _ _ _ us hl => match us, hl with | [_], _ => rfl
theorem D_Wood___init__ (T : Txt K mg base) : Def P w K mg base 1 (He.ma K (He.ga K "Wood") "__init__") ["self"] (spWoodInit K) := by
  refine mk_def T.f_Wood___init__ sc_Wood___init__ be_Wood___init__ (fun vs H Q E h => ?_) (fun cdv A outer s H vs Q E hr h => ?_)
  · obtain ⟨a, x, rfl, _⟩ := h
    rfl
  · obtain ⟨p, dx, rfl, hp, k⟩ := h
    refine ⟨_, (pss_cons (ps_fld (pv 0) pe_dnewK (by rfl))
      (pss_cons (ps_fld (pv 0) pe_int (by rfl))
      (pss_one (ps_fld (pv 0) pe_int (by rfl))))), ?_⟩
    walk_at "rd"
    intro d hd
    have npd : p ≠ d := ne_of_none hp hd
    refine ⟨_, _, _, by rw [upd_ne npd]; exact hp, T.c_Wood.c, T.n_Wood_sayings, by decide, _, _, _, upd_same, T.c_Wood.c, T.n_Wood_came, by simp [putF], _, _, _, upd_same, T.c_Wood.c, T.n_Wood_clock, by simp [putF, ofString_inj], ?_⟩
    simp only [upd_upd]
    refine k d _ hd ⟨?_, ?_, (fun e he => nomatch he), List.nodup_nil, List.nodup_nil, List.nodup_nil, (fun e he => nomatch he), (fun e he => nomatch he), (by show 0 < 100000; decide)⟩ (fun b o hb e => ?_)
    · rw [upd_same]
      simp [putF, ofString_inj, woodFs]
    · rw [upd_ne npd.symm, upd_same]
      rfl
    · rw [upd_ne hb, upd_ne (ne_of_none e hd)]
      exact e
def spNow (K : PySem.W.Frag) : Sp := fun vs H Q _ => ∃ L : Lay, vs = [.ref L.p] ∧ WoodAt K H L ∧ Q (.int L.clock) H
abbrev N_Wood_now : List Str := ["self"]
theorem sc_Wood_now : FnScope N_Wood_now ["self"] (defScope s_Wood_now) := ⟨rfl, rfl, rfl, by decide +kernel, rfl, by decide +kernel, by decide +kernel⟩
theorem be_Wood_now : BindEq "now" "Wood.now" s_Wood_now ["self"] := fun _ _ _ _ _ _ us hl => match us, hl with | [_], _ => rfl
theorem D_Wood_now (T : Txt K mg base) : Def P w K mg base 1 (He.ma K (He.ga K "Wood") "now") ["self"] (spNow K) := by
  refine mk_def T.f_Wood_now sc_Wood_now be_Wood_now (fun vs H Q E h => ?_) (fun cdv A outer s H vs Q E hr h => ?_)
  · obtain ⟨L, rfl, _⟩ := h
    rfl
  · obtain ⟨L, rfl, W, k⟩ := h
    refine ⟨_, (pss_one (ps_ret (pe_fld (pv 0) (by rfl)))), ?_⟩
    walk_at "rd"
    exact W.fclock T k
theorem WoodAt.setTop {K : PySem.W.Frag} {H : Hp} {L : Lay} (W : WoodAt K H L) (c k : Int) : WoodAt K (upd H L.p (.ins (cW K) L.dx (woodFs L.d c k))) { L with came := c, clock := k } := by
  have npd : L.d ≠ L.p := ne_of W.dic W.top (by intro q; cases q)
  refine ⟨upd_same, by show upd H L.p _ L.d = _; rw [upd_ne npd]; exact W.dic, fun e he => ?_, W.nk, W.nda, W.ndv, W.dv, W.pa, W.sz⟩
  have S := W.say e he
  exact ⟨by rw [upd_ne (W.pa e he)]; exact S.o, by rw [upd_ne (ne_of S.d W.top (by intro q; cases q))]; exact S.d, S.nd, S.sz⟩
def spTick (K : PySem.W.Frag) : Sp := fun vs H Q E => ∃ (L : Lay) (x : V) (d : PyData), vs = [.ref L.p, x] ∧ WoodAt K H L ∧ Dp K H x d ∧
  (∀ n : Int, d = .int n → isCount d 0 1000 = true → ∀ H', WoodAt K H' { L with clock := L.clock + n } → (∀ b o, b ≠ L.p → H b = some o → H' b = some o) → Q .non H') ∧ (isCount d 0 1000 = false → Bad K E .number H)
abbrev N_Wood_tick : List Str := ["self", "many"]
theorem sc_Wood_tick : FnScope N_Wood_tick ["self", "many"] (defScope s_Wood_tick) := ⟨rfl, rfl, rfl, by decide +kernel, rfl, by decide +kernel, by decide +kernel⟩
theorem be_Wood_tick : BindEq "tick" "Wood.tick" s_Wood_tick ["self", "many"] := fun _ _ _ _ _ _ us hl => match us, hl with | [_, _], _ => rfl
theorem D_Wood_tick (T : Txt K mg base) : Def P w K mg base 2 (He.ma K (He.ga K "Wood") "tick") ["self", "many"] (spTick K) := by
  refine mk_def T.f_Wood_tick sc_Wood_tick be_Wood_tick (fun vs H Q E h => ?_) (fun cdv A outer s H vs Q E hr h => ?_)
  · obtain ⟨L, x, d, rfl, _⟩ := h
    rfl
  · obtain ⟨L, x, d, rfl, W, hx, k1, k0⟩ := h
    refine ⟨_, (pss_cons (ps_if (pt_not (pt_val (pe_cd (D_is_count T) (by exact hr.mono (by first | decide | omega)) T.g_is_count passE (pa_cons (pv 1) (pa_cons pe_int (pa_cons (pe_gk T.k_MOST_TICKS) pa_nil)))))) (pss_one (ps_rs T.x_BadNumber)) pss_nil)
      (pss_one (ps_fld (pv 0) (pe_op op_add (pe_fld (pv 0) (by rfl)) (pv 1)) (by rfl)))), ?_⟩
    walk_at "rd"
    refine ⟨x, d, _, _, rfl, hx, _, rfl, ?_⟩
    cases c : isCount d 0 1000 with
    | false => exact iteT (k0 c)
    | true =>
      refine iteF ?_
      cases hx with
      | int n =>
        refine W.fclock T ⟨_, rfl, _, rfl, _, _, _, W.top, T.c_Wood.c, T.n_Wood_clock, by rw [fw_len]; decide, ?_⟩
        rw [fpw_clock]
        exact k1 n rfl c _ (W.setTop _ _) (fun b o hb e => by rw [upd_ne hb]; exact e)
      | _ => cases c
/-! ### Wood.saying, numbers -/
def sayingD (L : Lay) (d : PyData) : Option Ent := match d with
  | .int n => if 1 ≤ n ∧ n ≤ L.came then findE L.ents n else none
  | _ => none
def spSaying (K : PySem.W.Frag) : Sp := fun vs H Q E => ∃ (L : Lay) (x : V) (d : PyData), vs = [.ref L.p, x] ∧ WoodAt K H L ∧ Dp K H x d ∧ (∀ e, sayingD L d = some e → Q (.ref e.a) H) ∧ (sayingD L d = none → Bad K E .no H)
abbrev N_Wood_saying : List Str := ["self", "number"]
theorem sc_Wood_saying : FnScope N_Wood_saying ["self", "number"] (defScope s_Wood_saying) := ⟨rfl, rfl, rfl, by decide +kernel, rfl, by decide +kernel, by decide +kernel⟩
theorem be_Wood_saying : BindEq "saying" "Wood.saying" s_Wood_saying ["self", "number"] := fun _ _ _ _ _ _ us hl => match us, hl with | [_, _], _ => rfl
theorem D_Wood_saying (T : Txt K mg base) : Def P w K mg base 2 (He.ma K (He.ga K "Wood") "saying") ["self", "number"] (spSaying K) := by
  refine mk_def T.f_Wood_saying sc_Wood_saying be_Wood_saying (fun vs H Q E h => ?_) (fun cdv A outer s H vs Q E hr h => ?_)
  · obtain ⟨L, x, d, rfl, _⟩ := h
    rfl
  · obtain ⟨L, x, d, rfl, W, hx, k1, k0⟩ := h
    refine ⟨_, (pss_cons (ps_if (PW.pt (pw_or (pt_not (pt_val (pe_cd (D_is_count T) (by exact hr.mono (by first | decide | omega)) T.g_is_count passE (pa_cons (pv 1) (pa_cons pe_int (pa_cons (pe_fld (pv 0) (by rfl)) pa_nil)))))) (pw_or1 (pt_cmp (pc_dni (pv 1) (pe_fld (pv 0) (by rfl)) (by exact hu_of hr)))))) (pss_one (ps_rs T.x_NoSaying)) pss_nil)
      (pss_one (ps_ret (pe_dg (pe_fld (pv 0) (by rfl)) (pv 1) (by exact hu_of hr))))), ?_⟩
    walk_at "rd"
    refine W.fcame T ⟨x, d, 1, L.came, rfl, hx, _, rfl, ?_⟩
    cases c : isCount d 1 L.came with
    | false =>
      refine iteT (k0 ?_)
      cases d with
      | int n =>
        have h : ¬ (1 ≤ n ∧ n ≤ L.came) := fun h => by simp [isCount, h.1, h.2] at c
        exact if_neg h
      | _ => rfl
    | true =>
      refine iteF ?_
      cases hx with
      | int n =>
        have h : 1 ≤ n ∧ n ≤ L.came := by simpa [isCount] using c
        have es : sayingD L (.int n) = findE L.ents n := if_pos h
        refine W.fsay T ⟨_, rfl, _, .inl ⟨_, Sum.inl n, .inl W.dic, rfl, rfl⟩, ?_⟩
        rw [valE]
        cases f : findE L.ents n with
        | none => exact iteT (k0 (es.trans f))
        | some e => exact iteF (W.fsay T (W.at f (k1 e (es.trans f))))
      | _ => cases c
def spNumbers (K : PySem.W.Frag) : Sp := fun vs H Q _ => ∃ L : Lay, vs = [.ref L.p] ∧ WoodAt K H L ∧ L.ents.length < 64 ∧ ∀ p H', H p = none → Same H H' → H' p = some (.lst ((sortI (L.ents.map (·.n))).map V.int)) → Q (.ref p) H'
abbrev N_Wood_numbers : List Str := ["self"]
theorem sc_Wood_numbers : FnScope N_Wood_numbers ["self"] (defScope s_Wood_numbers) := ⟨rfl, rfl, rfl, by decide +kernel, rfl, by decide +kernel, by decide +kernel⟩
theorem be_Wood_numbers : BindEq "numbers" "Wood.numbers" s_Wood_numbers ["self"] := fun _ _ _ _ _ _ us hl => match us, hl with | [_], _ => rfl
theorem D_Wood_numbers (T : Txt K mg base) : Def P w K mg base 1 (He.ma K (He.ga K "Wood") "numbers") ["self"] (spNumbers K) := by
  refine mk_def T.f_Wood_numbers sc_Wood_numbers be_Wood_numbers (fun vs H Q E h => ?_) (fun cdv A outer s H vs Q E hr h => ?_)
  · obtain ⟨L, rfl, _⟩ := h
    rfl
  · obtain ⟨L, rfl, W, hl, k⟩ := h
    refine ⟨_, (pss_one (ps_ret (pe_callB (call_sortedDI rfl) (by rfl) T.b_sorted (by decide +kernel) (pa_cons (pe_fld (pv 0) (by rfl)) pa_nil)))), ?_⟩
    walk_at "rd"
    refine W.fsay T ⟨_, rfl, _, .inl W.dic, L.ents.map (·.n), ?_, by simpa using hl, fun ys p hp hs hn => ?_⟩
    · simp [entK]
    · rw [sortI_eq hp hs]
      exact k p _ hn (Same.new hn) upd_same
end
end Vw
namespace Vw
open PySem PySem.Spec PyProof.Rows L2
local macro_rules | `(tactic| walk_at "rd") => `(tactic| simp only [tSeq, tNext, tIfS, tAsg, tRet, tRetN, tDrop, tVar, tC, tOp, tUn, tTest, tB, tAnd, tOr, tNot, tAndV, tOrV, tNotV, tIf, tChain, tCB, tCons, tNil, tCall, tMeth, tMake, tFld, sFld, tTup, tLst, tTupS, tLstS, tDNewKS, tDNewTS, tTold, tCmp, t2I, tIsN, tNotN, tPar, gName, gNil, gCons, gTup, gSub, rI0, rU, rEq, rNe, tDGet, tDIn, tDNotIn, sDPut, tDNewK, tDGet1, tDGet2, tDPop1, tDPop2, tBM, tBM0, tM0, tM1, tSl, tPart, tNoPart, tBreak, tCont, tThru, L2.start, List.map_cons, List.map_nil, List.length_cons, List.length_nil, List.cons_append, List.nil_append, List.append_nil, List.replicate_succ, List.replicate_zero, Nat.reduceAdd, Nat.reduceSub, Nat.zero_add, List.getElem?_cons_zero, List.getElem?_cons_succ, List.set_cons_zero, List.set_cons_succ, wipe, cxOf_K, tYes, List.cons.injEq, and_self, Option.some.injEq, V.int.injEq, V.bl.injEq, V.ref.injEq, V.str.injEq, exists_eq_left', exists_eq_left, exists_and_left, and_assoc, true_and, and_true, if_true, if_false, ite_true, ite_false, Bool.not_true, Bool.not_false, Bool.false_eq_true, reduceIte])
def Lay.rows (L : Lay) : Rows := L.ents.map fun e => (e.n, e.row)
def Lay.wd (L : Lay) : Wd := ⟨L.rows, L.came, L.clock⟩
theorem findRE (es : List Ent) (n : Int) : findR (es.map fun e => (e.n, e.row)) n = (findE es n).map (·.row) := by
  unfold findR findE
  rw [List.find?_map]
  show Option.map _ (Option.map _ (List.find? (fun e => decide (e.n = n)) es)) = _
  cases List.find? (fun e => decide (e.n = n)) es <;> rfl
theorem Lay.find (L : Lay) (n : Int) : findR L.rows n = (findE L.ents n).map (·.row) := findRE _ _
theorem sayingME (L : Lay) (d : PyData) : sayingM L.wd d = (sayingD L d).map fun e => (e.n, e.row) := by
  cases d with
  | int n =>
    unfold sayingM sayingD
    by_cases h : 1 ≤ n ∧ n ≤ L.came
    · show (if 1 ≤ n ∧ n ≤ L.came then _ else _) = Option.map _ (if 1 ≤ n ∧ n ≤ L.came then _ else _)
      rw [if_pos h, if_pos h]
      show Option.map _ (findR L.rows n) = _
      rw [L.find]
      cases f : findE L.ents n with
      | none => rfl
      | some e =>
        have := (findE_mem f).2
        simp [this]
    · show (if 1 ≤ n ∧ n ≤ L.came then _ else _) = Option.map _ (if 1 ≤ n ∧ n ≤ L.came then _ else _)
      rw [if_neg h, if_neg h]
      rfl
  | _ => rfl
theorem sayingD_mem {L : Lay} {d : PyData} {e : Ent} (h : sayingD L d = some e) : e ∈ L.ents := by
  cases d with
  | int n =>
    unfold sayingD at h
    by_cases c : 1 ≤ n ∧ n ≤ L.came
    · exact (findE_mem ((if_pos c).symm.trans h)).1
    · have h' : (none : Option Ent) = some e := (if_neg c).symm.trans h
      cases h'
  | _ => cases h
theorem use_neD {K : PySem.W.Frag} {H : Hp} {x y : V} {d e : PyData} {Q : VK} (hx : Dp K H x d) (hy : Dp K H y e) (s1 : SeqAt.shaped d = true) (s2 : SeqAt.shaped e = true) (q : Q (.bl (!PyData.eqv d e)) H) : rNeD K x y H Q := ⟨d, e, hx, hy, s1, s2, q⟩
theorem use_eqD {K : PySem.W.Frag} {H : Hp} {x y : V} {d e : PyData} {Q : VK} (hx : Dp K H x d) (hy : Dp K H y e) (s1 : SeqAt.shaped d = true) (s2 : SeqAt.shaped e = true) (q : Q (.bl (PyData.eqv d e)) H) : rEqD K x y H Q := ⟨d, e, hx, hy, s1, s2, q⟩
theorem eqv_str (a b : Str) : PyData.eqv (.str a) (.str b) = decide (a = b) := by
  first
  | rfl
  | simp [PyData.eqv]
theorem eqv_int (a b : Int) : PyData.eqv (.int a) (.int b) = decide (a = b) := by
  first
  | rfl
  | simp [PyData.eqv]
theorem filterMap_if {α β : Type} {l : List α} {c : α → Prop} [DecidablePred c] {f : α → β} : (l.filterMap fun p => if c p then some (f p) else none) = (l.filter fun p => decide (c p)).map f := by
  induction l with
  | nil => rfl
  | cons a r ih =>
    by_cases h : c a
    · simp [List.filterMap_cons, List.filter_cons, h, ih]
    · simp [List.filterMap_cons, List.filter_cons, h, ih]
theorem filter_sortI (l : List Int) (c : Int → Bool) : (sortI l).filter c = sortI (l.filter c) := sortI_eq ((sortI_perm l).filter c) ((sortI_le l).sublist List.filter_sublist)
theorem dps_ints {K : PySem.W.Frag} {H : Hp} : ∀ ns : List Int, DpAll K H (ns.map V.int) (ns.map PyData.int)
  | [] => .nil
  | n :: r => .cons (.int n) (dps_ints r)
theorem canLay_ints : ∀ ns : List Int, PyData.canLayAll0 (ns.map PyData.int) = true
  | [] => rfl
  | n :: r => by simp only [List.map_cons, PyData.canLayAll0, PyData.canLay0, canLay_ints r, Bool.and_self]
theorem depth_ints : ∀ ns : List Int, PyData.depthAll (ns.map PyData.int) = 0
  | [] => rfl
  | n :: r => by simp only [List.map_cons, PyData.depthAll, PyData.depth, depth_ints r, Nat.max_self]
theorem shaped_ints (ns : List Int) : SeqAt.shaped (.list (ns.map PyData.int)) = true := by
  simp [SeqAt.shaped, PyData.canLay0, PyData.depth, canLay_ints, depth_ints]
theorem eqvAll_ints : ∀ a b : List Int, PyData.eqvAll (a.map PyData.int) (b.map PyData.int) = decide (a = b)
  | [], [] => by simp [PyData.eqvAll]
  | [], _ :: _ => by simp [PyData.eqvAll]
  | _ :: _, [] => by simp [PyData.eqvAll]
  | x :: a, y :: b => by
    simp only [List.map_cons, PyData.eqvAll, eqvAll_ints a b, eqv_int]
    by_cases h : x = y <;> by_cases h2 : a = b <;> simp [h, h2]
theorem eqv_ints (a b : List Int) : PyData.eqv (.list (a.map PyData.int)) (.list (b.map PyData.int)) = decide (a = b) := by
  simp only [PyData.eqv, eqvAll_ints]
theorem dp_ints {K : PySem.W.Frag} {H : Hp} {p : Addr} {ns : List Int} (h : H p = some (.lst (ns.map V.int))) : Dp K H (.ref p) (.list (ns.map PyData.int)) := .lst (SqL.of h) (dps_ints ns)
/-- there, or 0 -/
def Here (L : Lay) (n : Int) : Prop := n = 0 ∨ ∃ e, findE L.ents n = some e
section
variable {P : Program} {w : World} {K : PySem.W.Frag} {mg : Str → Option Value} {base : Heap}
def spDeep (K : PySem.W.Frag) : Sp := fun vs H Q _ => ∃ (L : Lay) (n : Int), vs = [.ref L.p, .int n] ∧ WoodAt K H L ∧ Wf L.rows ∧ Here L n ∧ Q (.int (deepI L.rows n : Nat)) H
abbrev N_Wood_deep : List Str := ["self", "number", "found"]
theorem sc_Wood_deep : FnScope N_Wood_deep ["self", "number"] (defScope s_Wood_deep) := ⟨rfl, rfl, rfl, by decide +kernel, rfl, by decide +kernel, by decide +kernel⟩
theorem be_Wood_deep : BindEq "deep" "Wood.deep" s_Wood_deep ["self", "number"] := fun _ _ _ _ _ _ us hl => match us, hl with | [_, _], _ => rfl
theorem D_Wood_deep (T : Txt K mg base) : Def P w K mg base 1 (He.ma K (He.ga K "Wood") "deep") ["self", "number"] (spDeep K) := by
  refine mk_def T.f_Wood_deep sc_Wood_deep be_Wood_deep (fun vs H Q E h => ?_) (fun cdv A outer s H vs Q E hr h => ?_)
  · obtain ⟨L, n, rfl, _⟩ := h
    rfl
  · obtain ⟨L, n, rfl, W, F, hn, k⟩ := h
    refine ⟨_, (pss_cons (ps_set (i := 2) sc_Wood_deep.nd rfl (Or.inl rfl) pe_int)
      (pss_cons (ps_while ownE (PW.pt (pw_and (pt_cmpR op_ne (pv 1) pe_int (nomark _)) (pw_and1 (pt_cmpR op_ne (pe_fld (pe_dg (pe_fld (pv 0) (by rfl)) (pv 1) (by exact hu_of hr)) (by rfl)) pe_int (nomark _))))) (pss_cons (ps_set (i := 1) sc_Wood_deep.nd rfl (Or.inl rfl) (pe_fld (pe_dg (pe_fld (pv 0) (by rfl)) (pv 1) (by exact hu_of hr)) (by rfl)))
      (pss_one (ps_set (i := 2) sc_Wood_deep.nd rfl (Or.inl rfl) (pe_op op_add (pv 2) pe_int)))))
      (pss_one (ps_ret (pv 2))))), ?_⟩
    walk_at "rd"
    refine ⟨fun m σ H' => H' = H ∧ ∃ (i : Int) (f : Nat), σ = [some (.ref L.p), some (.int i), some (.int f)] ∧ m = i.toNat ∧ Here L i ∧ f + deepI L.rows i = deepI L.rows n, ⟨_, rfl, n, 0, rfl, rfl, hn, by omega⟩, ?_⟩
    rintro m σ H' ⟨rfl, i, f, rfl, rfl, hi, ef⟩
    walk_at "rd"
    refine ⟨rfl, ?_⟩
    by_cases h0 : i = 0
    · rw [decide_eq_true h0]
      refine iteF ?_
      have e0 : deepI L.rows i = 0 := by rw [h0]; simp [deepI, above_zero]
      rw [show f = deepI L.rows n by omega]
      exact k
    · rw [decide_eq_false h0]
      obtain ⟨e, he⟩ := hi.resolve_left h0
      have S := W.say e (findE_mem he).1
      have hr : findR L.rows i = some e.row := by rw [L.find, he]; rfl
      have ab := F.above hr
      obtain ⟨_, p1, p2, p3⟩ := F.up hr
      refine iteT (W.fsay T (W.at he ⟨_, rfl, S.funder T ⟨rfl, ?_⟩⟩))
      by_cases u0 : e.row.under = 0
      · rw [decide_eq_true (show V.int e.row.under = V.int 0 by rw [u0])]
        refine iteF ?_
        have e0 : deepI L.rows i = 0 := by simp [deepI, ab, u0, above_zero]
        rw [show f = deepI L.rows n by omega]
        exact k
      · rw [decide_eq_false (show ¬ V.int e.row.under = V.int 0 from fun z => u0 (V.int.inj z))]
        have hu : Here L e.row.under := by
          rcases F.has _ (findR_mem hr) with z | ⟨r, z⟩
          · exact absurd z u0
          · right
            rw [L.find] at z
            cases q : findE L.ents e.row.under with
            | none => rw [q] at z; cases z
            | some e' => exact ⟨e', rfl⟩
        have hd : deepI L.rows i = deepI L.rows e.row.under + 1 := by
          obtain ⟨e', q⟩ := hu.resolve_left u0
          have ab' := F.above (n := e.row.under) (r := e'.row) (by rw [L.find, q]; rfl)
          simp [deepI, ab, ab']
        refine iteT ⟨_, fun _ _ h => h, W.fsay T (W.at he ⟨_, rfl, S.funder T ⟨e.row.under.toNat, by omega, rfl, e.row.under, f + 1, ?_, rfl, hu, by omega⟩⟩)⟩
        simp
def spLook (K : PySem.W.Frag) : Sp := fun vs H Q E => ∃ (L : Lay) (x : V) (d : PyData), vs = [.ref L.p, x] ∧ WoodAt K H L ∧ Dp K H x d ∧ (∀ e, sayingD L d = some e → ∀ p H', H p = none → Same H H' → H' p = some (.tup [.str e.row.who, .int e.row.under, if e.row.struck then .non else .str e.row.text, .int e.row.time]) → Q (.ref p) H') ∧ (sayingD L d = none → Bad K E .no H)
abbrev N_Wood_look : List Str := ["self", "number", "one"]
theorem sc_Wood_look : FnScope N_Wood_look ["self", "number"] (defScope s_Wood_look) := ⟨rfl, rfl, rfl, by decide +kernel, rfl, by decide +kernel, by decide +kernel⟩
theorem be_Wood_look : BindEq "look" "Wood.look" s_Wood_look ["self", "number"] := fun _ _ _ _ _ _ us hl => match us, hl with | [_, _], _ => rfl
theorem D_Wood_look (T : Txt K mg base) : Def P w K mg base 3 (He.ma K (He.ga K "Wood") "look") ["self", "number"] (spLook K) := by
  refine mk_def T.f_Wood_look sc_Wood_look be_Wood_look (fun vs H Q E h => ?_) (fun cdv A outer s H vs Q E hr h => ?_)
  · obtain ⟨L, x, d, rfl, _⟩ := h
    rfl
  · obtain ⟨L, x, d, rfl, W, hx, k1, k0⟩ := h
    refine ⟨_, (pss_cons (ps_set (i := 2) sc_Wood_look.nd rfl (Or.inl rfl) (pe_md (pv 0) T.c_Wood.c T.m_Wood_saying (D_Wood_saying T) (by exact hr.mono (by first | decide | omega)) passE (pa_cons (pv 1) pa_nil)))
      (pss_one (ps_ret (pe_tup (pa_cons (pe_fld (pv 2) (by rfl)) (pa_cons (pe_fld (pv 2) (by rfl)) (pa_cons (pe_ifExp (pt_val (pe_fld (pv 2) (by rfl))) pe_non (pe_fld (pv 2) (by rfl))) (pa_cons (pe_fld (pv 2) (by rfl)) pa_nil)))))))), ?_⟩
    walk_at "rd"
    refine ⟨_, _, W.top, fw_no _ _ _ (by decide) (by decide) (by decide), L, x, d, rfl, W, hx, fun e he => ?_, k0⟩
    have S := W.say e (sayingD_mem he)
    refine ⟨_, rfl, S.fby T ⟨_, rfl, S.funder T ⟨_, rfl, S.fstruck T ⟨_, rfl, ?_⟩⟩⟩⟩
    have k2 := k1 e he
    cases c : e.row.struck with
    | true =>
      rw [c] at k2
      refine iteT ⟨_, rfl, S.ftime T ⟨by show 4 ≤ sizeLine; decide, fun p hp => k2 p _ hp (Same.new hp) upd_same⟩⟩
    | false =>
      rw [c] at k2
      refine iteF ⟨_, rfl, S.ftext T ⟨_, rfl, S.ftime T ⟨by show 4 ≤ sizeLine; decide, fun p hp => k2 p _ hp (Same.new hp) upd_same⟩⟩⟩
def spOwn (K : PySem.W.Frag) : Sp := fun vs H Q E => ∃ (L : Lay) (x y : V) (d b : PyData), vs = [.ref L.p, x, y] ∧ WoodAt K H L ∧ Dp K H x d ∧ Dp K H y b ∧ Short b ∧ (∀ r, ownM L.wd d b = .error r → ∀ H', Same H H' → Bad K E r H') ∧ (∀ n r, ownM L.wd d b = .ok (n, r) → ∀ e, findE L.ents n = some e → e.row = r → ∀ H', Same H H' → Q (.ref e.a) H')
abbrev N_Wood_own : List Str := ["self", "number", "by", "one"]
theorem sc_Wood_own : FnScope N_Wood_own ["self", "number", "by"] (defScope s_Wood_own) := ⟨rfl, rfl, rfl, by decide +kernel, rfl, by decide +kernel, by decide +kernel⟩
theorem be_Wood_own : BindEq "own" "Wood.own" s_Wood_own ["self", "number", "by"] := fun _ _ _ _ _ _ us hl => match us, hl with | [_, _, _], _ => rfl
theorem D_Wood_own (T : Txt K mg base) : Def P w K mg base 3 (He.ma K (He.ga K "Wood") "own") ["self", "number", "by"] (spOwn K) := by
  refine mk_def T.f_Wood_own sc_Wood_own be_Wood_own (fun vs H Q E h => ?_) (fun cdv A outer s H vs Q E hr h => ?_)
  · obtain ⟨L, x, y, d, b, rfl, _⟩ := h
    rfl
  · obtain ⟨L, x, y, d, b, rfl, W, hx, hy, hz, k0, k1⟩ := h
    refine ⟨_, (pss_cons (ps_set (i := 3) sc_Wood_own.nd rfl (Or.inl rfl) (pe_md (pv 0) T.c_Wood.c T.m_Wood_saying (D_Wood_saying T) (by exact hr.mono (by first | decide | omega)) passE (pa_cons (pv 1) pa_nil)))
      (pss_cons (ps_expr (pe_cd (D_need_name T) (by exact hr.mono (by first | decide | omega)) T.g_need_name passE (pa_cons (pv 2) pa_nil)))
      (pss_cons (ps_if (PW.pt (pw_or (pt_cmpR op_ne (pe_fld (pv 3) (by rfl)) (pv 2) (nomark _)) (pw_or1 (pt_val (pe_fld (pv 3) (by rfl)))))) (pss_one (ps_rs T.x_NotYours)) pss_nil)
      (pss_one (ps_ret (pv 3)))))), ?_⟩
    walk_at "rd"
    refine ⟨_, _, W.top, fw_no _ _ _ (by decide) (by decide) (by decide), L, x, d, rfl, W, hx, fun e he => ?_, fun h => k0 _ ?_ H (Same.refl H)⟩
    · have S := W.say e (sayingD_mem he)
      have em : sayingM L.wd d = some (e.n, e.row) := by rw [sayingME, he]; rfl
      refine ⟨y, b, rfl, hy, hz, fun hb H1 s1 => ?_, fun hb H1 s1 => k0 _ ?_ H1 s1⟩
      · have S1 := S.same s1
        have hb0 : ¬ nameOk b = false := by rw [hb]; decide
        cases hy with
        | str z =>
          refine ⟨_, rfl, S1.fby T ⟨rfl, ?_⟩⟩
          have eo : ownM L.wd d (.str z) = if isS (.str z) e.row.who = true ∧ e.row.struck = false then .ok (e.n, e.row) else .error .yours := by
            unfold ownM
            rw [em]
            exact if_neg hb0
          by_cases hw : e.row.who = z
          · rw [decide_eq_true (show V.str e.row.who = V.str z by rw [hw])]
            refine iteF ⟨_, rfl, S1.fstruck T ⟨_, rfl, ?_⟩⟩
            cases c : e.row.struck with
            | true =>
              refine iteT (k0 .yours ?_ H1 s1)
              rw [eo, c]
              simp
            | false =>
              refine iteF (k1 e.n e.row ?_ e (findE_of W.nk (sayingD_mem he)) rfl H1 s1)
              rw [eo, c]
              simp [isS, hw]
          · rw [decide_eq_false (show ¬ V.str e.row.who = V.str z from fun q => hw (V.str.inj q))]
            refine iteT (k0 .yours ?_ H1 s1)
            rw [eo]
            simp [isS, Ne.symm hw]
        | _ => cases hb
      · unfold ownM
        rw [em]
        exact if_pos hb
    · unfold ownM
      rw [sayingME, h]
      rfl
def spReplies (K : PySem.W.Frag) : Sp := fun vs H Q E => ∃ (L : Lay) (n : Int), vs = [.ref L.p, .int n] ∧ WoodAt K H L ∧ L.ents.length < 64 ∧ ∀ p H', H p = none → Same H H' → H' p = some (.lst ((sortI (repliesR L.rows n)).map V.int)) → Q (.ref p) H'
abbrev N_Wood_replies : List Str := ["self", "number", "one"]
theorem sc_Wood_replies : FnScope N_Wood_replies ["self", "number"] (defScope s_Wood_replies) := ⟨rfl, rfl, rfl, by decide +kernel, rfl, by decide +kernel, by decide +kernel⟩
theorem be_Wood_replies : BindEq "replies" "Wood.replies" s_Wood_replies ["self", "number"] := fun _ _ _ _ _ _ us hl => match us, hl with | [_, _], _ => rfl
theorem D_Wood_replies (T : Txt K mg base) : Def P w K mg base 2 (He.ma K (He.ga K "Wood") "replies") ["self", "number"] (spReplies K) := by
  refine mk_def T.f_Wood_replies sc_Wood_replies be_Wood_replies (fun vs H Q E h => ?_) (fun cdv A outer s H vs Q E hr h => ?_)
  · obtain ⟨L, n, rfl, _⟩ := h
    rfl
  · obtain ⟨L, n, rfl, W, hl, k⟩ := h
    refine ⟨_, (pss_one (ps_ret (pe_lc (own := [("one", 2)]) (g := gName 2) rfl sc_Wood_replies.nd (pi_list (pe_md0 (pv 0) T.c_Wood.c T.m_Wood_numbers (D_Wood_numbers T) (by exact hr.mono (by first | decide | omega)) passE)) (blkOk_by (N := N_Wood_replies) (sc := defScope s_Wood_replies) (by decide +kernel)) (fun _ _ _ _ _ => by exact (pg_name (i := 2) sc_Wood_replies.nd rfl (Or.inl rfl))) (fun _ _ _ _ _ => by exact (pts_one (pt_cmpR op_eq (pe_fldK K (pe_dg (pe_fldK K (pv 0)) (pv 2) (by exact hu_of hr))) (pv 1) (nomark _)))) (fun _ _ _ _ _ => by exact (pv 2))))), ?_⟩
    walk_at "rd"
    refine lcL (l := sortI (L.ents.map (·.n))) V.int (fun m => if upR L.rows m = n then some (.int m) else none) (fun R r => ?_) (by rw [sortI_length, List.length_map, sizeLine_eq]; omega) (fun m H' hm s1 N1 N0 q1 q0 => ?_) (fun D H' hD s1 e => k D H' hD s1 ?_)
    · walk_at "rd"
      exact ⟨_, _, W.top, fw_no _ _ _ (by decide) (by decide) (by decide), L, rfl, W, hl, fun p H' hp s1 e => r p H' s1 (SqL.of e)⟩
    · have W1 := W.same s1
      obtain ⟨e, he, rfl⟩ : ∃ e, e ∈ L.ents ∧ e.n = m := by
        have := (sortI_perm _).mem_iff.mp hm
        simpa using this
      have fe := findE_of W.nk he
      have S := W1.say e he
      have eu : upR L.rows e.n = e.row.under := by unfold upR; rw [L.find, fe]; rfl
      walk_at "rd"
      refine W1.fsay T (W1.at fe ⟨_, rfl, S.funder T ⟨rfl, ?_⟩⟩)
      by_cases c : e.row.under = n
      · rw [decide_eq_true (show V.int e.row.under = V.int n by rw [c])]
        exact iteT (q1 _ _ (Same.refl _) (if_pos (eu.trans c)))
      · rw [decide_eq_false (show ¬ V.int e.row.under = V.int n from fun z => c (V.int.inj z))]
        exact iteF (q0 _ (Same.refl _) (if_neg fun z => c (eu.symm.trans z)))
    · rw [e, filterMap_if, filter_sortI]
      have : (L.ents.map (·.n)).filter (fun m => decide (upR L.rows m = n)) = repliesR L.rows n := by
        unfold repliesR Lay.rows
        rw [List.filter_map, List.filter_map, List.map_map]
        show List.map _ _ = List.map _ _
        congr 1
        apply List.filter_congr
        intro e he
        show decide (upR L.rows e.n = n) = decide (e.row.under = n)
        have fe := findE_of W.nk he
        have eu : upR L.rows e.n = e.row.under := by unfold upR; rw [L.find, fe]; rfl
        rw [eu]
      rw [this]
end
end Vw
namespace Vw
open PySem PySem.Spec PyProof.Rows L2
local macro_rules | `(tactic| walk_at "rd") => `(tactic| simp only [tSeq, tNext, tIfS, tAsg, tRet, tRetN, tDrop, tVar, tC, tOp, tUn, tTest, tB, tAnd, tOr, tNot, tAndV, tOrV, tNotV, tIf, tChain, tCB, tCons, tNil, tCall, tMeth, tMake, tFld, sFld, tTup, tLst, tTupS, tLstS, tDNewKS, tDNewTS, tTold, tCmp, t2I, tIsN, tNotN, tPar, gName, gNil, gCons, gTup, gSub, rI0, rU, rEq, rNe, tDGet, tDIn, tDNotIn, sDPut, tDNewK, tDGet1, tDGet2, tDPop1, tDPop2, tBM, tBM0, tM0, tM1, tSl, tPart, tNoPart, tBreak, tCont, tThru, L2.start, List.map_cons, List.map_nil, List.length_cons, List.length_nil, List.cons_append, List.nil_append, List.append_nil, List.replicate_succ, List.replicate_zero, Nat.reduceAdd, Nat.reduceSub, Nat.zero_add, List.getElem?_cons_zero, List.getElem?_cons_succ, List.set_cons_zero, List.set_cons_succ, wipe, cxOf_K, tYes, List.cons.injEq, and_self, Option.some.injEq, V.int.injEq, V.bl.injEq, V.ref.injEq, V.str.injEq, exists_eq_left', exists_eq_left, exists_and_left, and_assoc, true_and, and_true, if_true, if_false, ite_true, ite_false, Bool.not_true, Bool.not_false, Bool.false_eq_true, reduceIte])
section
variable {P : Program} {w : World} {K : PySem.W.Frag} {mg : Str → Option Value} {base : Heap}
def spVotesOf (K : PySem.W.Frag) : Sp := fun vs H Q E => ∃ (L : Lay) (x : V) (d : PyData), vs = [.ref L.p, x] ∧ WoodAt K H L ∧ Dp K H x d ∧ (∀ e, sayingD L d = some e → ∀ p H', H p = none → Same H H' → H' p = some (.tup [.int e.row.ups, .int e.row.downs]) → Q (.ref p) H') ∧ (sayingD L d = none → Bad K E .no H)
abbrev N_Wood_votes_of : List Str := ["self", "number", "one"]
theorem sc_Wood_votes_of : FnScope N_Wood_votes_of ["self", "number"] (defScope s_Wood_votes_of) := ⟨rfl, rfl, rfl, by decide +kernel, rfl, by decide +kernel, by decide +kernel⟩
theorem be_Wood_votes_of : BindEq "votes_of" "Wood.votes_of" s_Wood_votes_of ["self", "number"] := fun _ _ _ _ _ _ us hl => match us, hl with | [_, _], _ => rfl
theorem D_Wood_votes_of (T : Txt K mg base) : Def P w K mg base 3 (He.ma K (He.ga K "Wood") "votes_of") ["self", "number"] (spVotesOf K) := by
  refine mk_def T.f_Wood_votes_of sc_Wood_votes_of be_Wood_votes_of (fun vs H Q E h => ?_) (fun cdv A outer s H vs Q E hr h => ?_)
  · obtain ⟨L, x, d, rfl, _⟩ := h
    rfl
  · obtain ⟨L, x, d, rfl, W, hx, k1, k0⟩ := h
    refine ⟨_, (pss_cons (ps_set (i := 2) sc_Wood_votes_of.nd rfl (Or.inl rfl) (pe_md (pv 0) T.c_Wood.c T.m_Wood_saying (D_Wood_saying T) (by exact hr.mono (by first | decide | omega)) passE (pa_cons (pv 1) pa_nil)))
      (pss_one (ps_ret (pe_tup (pa_cons (pe_md0 (pv 2) T.c_Saying.c T.m_Saying_ups (D_Saying_ups T) (by exact hr.mono (by first | decide | omega)) passE) (pa_cons (pe_md0 (pv 2) T.c_Saying.c T.m_Saying_downs (D_Saying_downs T) (by exact hr.mono (by first | decide | omega)) passE) pa_nil)))))), ?_⟩
    walk_at "rd"
    refine ⟨_, _, W.top, fw_no _ _ _ (by decide) (by decide) (by decide), L, x, d, rfl, W, hx, fun e he => ?_, k0⟩
    have S := W.say e (sayingD_mem he)
    refine ⟨_, rfl, _, _, S.o, fs_ups _ _, _, _, _, _, rfl, S, fun H1 s1 => ?_⟩
    have S1 := S.same s1
    refine ⟨_, rfl, _, _, S1.o, fs_downs _ _, _, _, _, _, rfl, S1, fun H2 s2 => ⟨by show 2 ≤ sizeLine; decide, fun p hp => ?_⟩⟩
    exact k1 e he p _ ((s1.trans s2).free hp) ((s1.trans s2).trans (Same.new hp)) upd_same
/-! ### Wood.below, many -/
theorem perm_flatMap {α β : Type} {f g : α → List β} : ∀ {l : List α}, (∀ a ∈ l, (f a).Perm (g a)) → (l.flatMap f).Perm (l.flatMap g)
  | [], _ => List.Perm.refl _
  | a :: r, h => by
    rw [List.flatMap_cons, List.flatMap_cons]
    exact (h a List.mem_cons_self).append (perm_flatMap fun b hb => h b (List.mem_cons_of_mem _ hb))
theorem below_perm {rs : Rows} (F : Wf rs) (n : Int) : ((sortI (repliesR rs n)).flatMap fun c => c :: sortI (beneathR rs c)).Perm (beneathR rs n) :=
  ((sortI_perm _).flatMap_right _).trans ((perm_flatMap fun c _ => (sortI_perm (beneathR rs c)).cons c).trans (beneath_step F n))
theorem below_len {rs : Rows} (F : Wf rs) (n : Int) (i : Nat) : (((sortI (repliesR rs n)).take i).flatMap fun c => c :: sortI (beneathR rs c)).length ≤ rs.length := by
  have h1 := (below_perm F n).length_eq
  have h2 : (beneathR rs n).length ≤ rs.length := by
    unfold beneathR
    exact Nat.le_trans (List.length_filter_le _ _) (by rw [List.length_map]; omega)
  have h3 : ((sortI (repliesR rs n)).flatMap fun c => c :: sortI (beneathR rs c)).length = (((sortI (repliesR rs n)).take i).flatMap fun c => c :: sortI (beneathR rs c)).length + (((sortI (repliesR rs n)).drop i).flatMap fun c => c :: sortI (beneathR rs c)).length := by
    rw [← List.length_append, ← List.flatMap_append, List.take_append_drop]
  omega
/-- how many under one are not struck -/
def manyR (rs : Rows) (n : Int) : Nat := ((beneathR rs n).filter fun m => ((findR rs m).map fun r => !r.struck).getD false).length
def isZero : PyData → Bool
  | .int n => decide (n = 0)
  | _ => false
theorem underOk_iff (L : Lay) {d : PyData} (z : isZero d = false) : underOk L.wd d = true ↔ ∃ e, sayingD L d = some e := by
  cases d with
  | int n =>
    have hn : ¬ n = 0 := by simpa [isZero] using z
    simp only [underOk, sayingD, Bool.or_eq_true, Bool.and_eq_true, decide_eq_true_eq, hn, false_or]
    show (1 ≤ n ∧ n ≤ L.came) ∧ (findR L.rows n).isSome = true ↔ _
    rw [L.find]
    constructor
    · rintro ⟨h1, h2⟩
      rw [if_pos h1]
      cases f : findE L.ents n with
      | none => rw [f] at h2; cases h2
      | some e => exact ⟨e, rfl⟩
    · rintro ⟨e, h⟩
      by_cases c : 1 ≤ n ∧ n ≤ L.came
      · rw [if_pos c] at h
        exact ⟨c, by rw [h]; rfl⟩
      · rw [if_neg c] at h
        cases h
  | _ => simp [underOk, sayingD]
def spBelow (K : PySem.W.Frag) (k : Nat) : Sp := fun vs H Q E => ∃ (L : Lay) (x : V) (d : PyData), vs = [.ref L.p, x] ∧ WoodAt K H L ∧ Good L.wd ∧ Dp K H x d ∧ SeqAt.shaped d = true ∧ (∀ n, d = .int n → 8 ≤ (aboveR L.rows n).length + k) ∧
  (underOk L.wd d = false → Bad K E .no H) ∧ (∀ n, d = .int n → underOk L.wd d = true → ∀ p H', H p = none → Same H H' → H' p = some (.lst ((sortI (beneathR L.rows n)).map V.int)) → Q (.ref p) H')
abbrev N_Wood_below : List Str := ["self", "number", "found", "one"]
theorem sc_Wood_below : FnScope N_Wood_below ["self", "number"] (defScope s_Wood_below) := ⟨rfl, rfl, rfl, by decide +kernel, rfl, by decide +kernel, by decide +kernel⟩
theorem be_Wood_below : BindEq "below" "Wood.below" s_Wood_below ["self", "number"] := fun _ _ _ _ _ _ us hl => match us, hl with | [_, _], _ => rfl
theorem D_below_none (T : Txt K mg base) : Def P w K mg base 1 (He.ma K (He.ga K "Wood") "below") ["self", "number"] (fun _ _ _ _ => False) :=
  mk_def T.f_Wood_below sc_Wood_below be_Wood_below (fun _ _ _ _ h => h.elim) (fun _ _ _ _ _ _ _ _ _ h => h.elim)
theorem below_body (T : Txt K mg base) (k j : Nat) (sp : Sp) (D_Wood_below : Txt K mg base → Def P w K mg base (j + 3) (He.ma K (He.ga K "Wood") "below") ["self", "number"] sp)
    (hsp : ∀ (L : Lay) (c : Int) (H : Hp) (Q : VK) (E : XK), WoodAt K H L → Good L.wd → (∃ r, findR L.rows c = some r) → 9 ≤ (aboveR L.rows c).length + k → (aboveR L.rows c).length ≤ 8 → k ≠ 0 ∨ (aboveR L.rows c).length ≠ 8 → (∀ p H', H p = none → Same H H' → H' p = some (.lst ((sortI (beneathR L.rows c)).map V.int)) → Q (.ref p) H') → sp [.ref L.p, .int c] H Q E) :
    Def P w K mg base (j + 4) (He.ma K (He.ga K "Wood") "below") ["self", "number"] (spBelow K k) := by
  refine mk_def T.f_Wood_below sc_Wood_below be_Wood_below (fun vs H Q E h => ?_) (fun cdv A outer s H vs Q E hr h => ?_)
  · obtain ⟨L, x, d, rfl, _⟩ := h
    rfl
  · obtain ⟨L, x, d, rfl, W, G, hx, hsh, hk, k0, k1⟩ := h
    refine ⟨_, (C8.pss_cut (ps_if (PW.pt (pw_or (pt_ned (pv 1) pe_int (by exact hr.units)) (pw_or1 (pt_val (pe_callB call_isi (by rfl) T.b_isinstance (by decide +kernel) (pa_cons (pv 1) (pa_cons (pe_bltn (v := .ty "bool") (by rfl) T.b_bool (by decide +kernel) rfl) pa_nil))))))) (pss_one (ps_expr (pe_md (pv 0) T.c_Wood.c T.m_Wood_saying (D_Wood_saying T) (by exact hr.mono (by first | decide | omega)) passE (pa_cons (pv 1) pa_nil)))) pss_nil)
      (pss_cons (ps_set (i := 2) sc_Wood_below.nd rfl (Or.inl rfl) (pe_lst pa_nil))
      (pss_cons (ps_for ownE rfl (pi_list (pe_md (pv 0) T.c_Wood.c T.m_Wood_replies (D_Wood_replies T) (by exact hr.mono (by first | decide | omega)) passE (pa_cons (pv 1) pa_nil))) (pg_name (i := 3) sc_Wood_below.nd rfl (Or.inl rfl))
      (pss_one (ps_set (i := 2) sc_Wood_below.nd rfl (Or.inl rfl) (pe_op op_cat (pe_op op_cat (pv 2) (pe_lst (pa_cons (pv 3) pa_nil))) (pe_md (pv 0) T.c_Wood.c T.m_Wood_below (D_Wood_below T) (by exact hr.mono (by first | decide | omega)) passE (pa_cons (pv 3) pa_nil))))))
      (pss_one (ps_ret (pe_callB cr_sorted (by rfl) T.b_sorted (by decide +kernel) (pa_cons (pv 2) pa_nil))))))), ?_⟩
    refine ⟨fun σ' H' => H' = H ∧ σ' = [some (.ref L.p), some x, none, none] ∧ underOk L.wd d = true, ?_, ?_⟩
    · walk_at "rd"
      have say : ∀ {Q' : VK}, (underOk L.wd d = true → Q' .non H) → isZero d = false → (∃ dx fs, H L.p = some (.ins (He.ga K "Wood") dx fs) ∧ fs.lookup (Str.ofString "saying") = none ∧ spSaying K [.ref L.p, x] H (fun _ H1 => Q' .non H1) E) := fun {Q'} q z => by
        refine ⟨_, _, W.top, fw_no _ _ _ (by decide) (by decide) (by decide), L, x, d, rfl, W, hx, fun e he => q ?_, fun h => k0 ?_⟩
        · exact (underOk_iff L z).mpr ⟨e, he⟩
        · cases c : underOk L.wd d with
          | false => rfl
          | true =>
            obtain ⟨e, he⟩ := (underOk_iff L z).mp c
            rw [he] at h
            cases h
      refine use_neD hx (.int 0) hsh rfl ⟨_, rfl, ?_⟩
      cases e0 : PyData.eqv d (.int 0) with
      | false =>
        refine iteT (say (Q' := fun _ H1 => H1 = H ∧ underOk L.wd d = true) (fun h => ⟨rfl, h⟩) ?_)
        cases d with
        | int n => 
          have : ¬ n = 0 := by rw [eqv_int] at e0; exact of_decide_eq_false e0
          simp [isZero, this]
        | _ => rfl
      | true =>
        refine iteF (use_isi hx (kit_bool _) ⟨_, rfl, ?_⟩)
        cases hx with
        | bl b => exact iteT (say (Q' := fun _ H1 => H1 = H ∧ underOk L.wd (.bool b) = true) (fun h => ⟨rfl, h⟩) rfl)
        | int n =>
          have : n = 0 := by rw [eqv_int] at e0; exact of_decide_eq_true e0
          subst this
          exact iteF ⟨rfl, rfl⟩
        | _ => cases e0
    · rintro σ' H' ⟨rfl, rfl, hu⟩
      obtain ⟨n, rfl⟩ : ∃ n, d = .int n := by
        cases d with
        | int n => exact ⟨n, rfl⟩
        | _ => cases hu
      cases hx
      have k2 := k1 n rfl hu
      have hk := hk n rfl
      walk_at "rd"
      refine ⟨Nat.zero_le _, fun q hq => ?_⟩
      have F : Wf L.rows := G.wf
      have hnn : n = 0 ∨ ∃ r, findR L.rows n = some r := by
        simp only [underOk, Bool.or_eq_true, Bool.and_eq_true, decide_eq_true_eq] at hu
        rcases hu with h | h
        · exact .inl h
        · exact .inr (Option.isSome_iff_exists.mp h.2)
      have hd8 := G.dp0 hnn
      refine forL (l := sortI (repliesR L.rows n)) V.int (fun R r => ?_)
        (fun p i σ' H1 => Same H' H1 ∧ SqL K H1 p ((sortI (repliesR L.rows n)).map V.int) ∧ ∃ (f : Addr) (v : Option V), σ' = [some (.ref L.p), some (.int n), some (.ref f), v] ∧ H' f = none ∧ H1 f = some (.lst ((((sortI (repliesR L.rows n)).take i).flatMap fun c => c :: sortI (beneathR L.rows c)).map V.int)))
        (fun p H1 s1 hp => ⟨(Same.new hq).trans s1, hp, q, none, rfl, hq, s1 _ _ upd_same⟩) (fun p i σ' H1 _ h => h.2.1) ?_ ?_
      · walk_at "rd"
        have W1 := W.same (Same.new (o := .lst []) hq)
        exact ⟨_, _, W1.top, fw_no _ _ _ (by decide) (by decide) (by decide), L, n, rfl, W1, by have := G.len; simp [Lay.wd, Lay.rows] at this; omega, fun p H1 hp s1 e => r p H1 s1 (SqL.of e)⟩
      · rintro p i c σ' H1 hc ⟨s1, hp, f, v, rfl, hf, hl⟩
        walk_at "rd"
        have hcm : c ∈ repliesR L.rows n := (sortI_perm _).mem_iff.mp (List.mem_of_getElem? hc)
        obtain ⟨rc, hrc, _⟩ := mem_replies.mp hcm
        have fc := findR_of F.nk hrc
        have abc := reply_above F hcm
        have lenc : (aboveR L.rows c).length = (aboveR L.rows n).length + 1 := by rw [abc]; rfl
        have l1 := below_len F n i
        have l2 := below_len F n (i + 1)
        have e2 : ((sortI (repliesR L.rows n)).take (i + 1)).flatMap (fun c => c :: sortI (beneathR L.rows c)) = ((sortI (repliesR L.rows n)).take i).flatMap (fun c => c :: sortI (beneathR L.rows c)) ++ [c] ++ sortI (beneathR L.rows c) := by
          rw [List.take_add_one, hc, List.flatMap_append]
          simp
        have ln := G.len
        have ln : L.rows.length ≤ 60 := ln
        have d8 : (aboveR L.rows c).length ≤ 8 := G.dp _ hrc
        refine ⟨by decide, fun a ha => ⟨f, a, _, _, rfl, rfl, (Same.new ha) _ _ hl, upd_same, ?_, fun b hb => ?_⟩⟩
        · rw [sizeLine_eq, List.length_map]
          show _ + 1 ≤ _
          omega
        · have s3 := (Same.new (o := .lst [V.int c]) ha).trans (Same.new (o := .lst ((((sortI (repliesR L.rows n)).take i).flatMap fun c => c :: sortI (beneathR L.rows c)).map V.int ++ [V.int c])) hb)
          have W3 := W.same (s1.trans s3)
          refine ⟨_, _, W3.top, fw_no _ _ _ (by decide) (by decide) (by decide), hsp L c _ _ _ W3 G ⟨rc, fc⟩ (by omega) d8 (by omega) (fun q H4 hq s4 e4 => ?_)⟩
          refine ⟨b, q, _, _, rfl, rfl, s4 _ _ upd_same, e4, ?_, fun r hr => ?_⟩
          · rw [e2] at l2
            simp only [List.length_append, List.length_map, List.length_singleton] at l2 ⊢
            rw [sizeLine_eq]
            omega
          · have s5 := (s3.trans s4).trans (Same.new (o := .lst ((((sortI (repliesR L.rows n)).take i).flatMap fun c => c :: sortI (beneathR L.rows c)).map V.int ++ [V.int c] ++ (sortI (beneathR L.rows c)).map V.int)) hr)
            refine ⟨s1.trans s5, s5.seq hp, r, rfl, s1.free ((s3.trans s4).free hr), ?_⟩
            rw [upd_same, e2]
            simp
      · rintro p σ' H1 ⟨s1, hp, f, v, rfl, hf, hl⟩
        walk_at "rd"
        rw [List.take_of_length_le (Nat.le_refl _)] at hl
        have ln := G.len
        have ln : L.rows.length ≤ 60 := ln
        have pm := below_perm F n
        have hlen := pm.length_eq
        have hle : (beneathR L.rows n).length ≤ L.rows.length := by
          unfold beneathR
          exact Nat.le_trans (List.length_filter_le _ _) (by rw [List.length_map]; omega)
        refine ⟨f, _, rfl, SqL.of hl, by omega, fun ns' q hpm hs hq => ?_⟩
        rw [sortI_eq (hpm.trans pm) hs]
        exact k2 q _ (s1.free hq) (s1.trans (Same.new hq)) upd_same
theorem D_Wood_below_at (T : Txt K mg base) : ∀ k : Nat, Def P w K mg base (k + 4) (He.ma K (He.ga K "Wood") "below") ["self", "number"] (spBelow K k)
  | 0 => below_body T 0 0 (fun _ _ _ _ => False) (fun T => (D_below_none T).mono (by omega)) fun L c H Q E W G hc h9 h8 hne _ => by omega
  | k + 1 => below_body T (k + 1) (k + 1) (spBelow K k) (fun T => D_Wood_below_at T k) fun L c H Q E W G hc h9 h8 hne q => by
    refine ⟨L, .int c, .int c, rfl, W, G, .int c, rfl, fun n e => ?_, fun h => ?_, fun n e _ p H' hp s1 hl => ?_⟩
    · cases e
      omega
    · obtain ⟨r, hr⟩ := hc
      have h1 := (G.wf.up hr).2.1
      have h2 := G.le _ (findR_mem hr)
      have h3 : (findR L.wd.rows c).isSome = true := by show (findR L.rows c).isSome = true; rw [hr]; rfl
      have h2' : c ≤ L.wd.came := h2
      have h1' : 1 ≤ c := by omega
      simp [underOk, h3, h1', h2'] at h
    · cases e
      exact q p H' hp s1 hl
theorem D_Wood_below (T : Txt K mg base) : Def P w K mg base 12 (He.ma K (He.ga K "Wood") "below") ["self", "number"] (spBelow K 8) := D_Wood_below_at T 8
def spMany (K : PySem.W.Frag) : Sp := fun vs H Q E => ∃ (L : Lay) (x : V) (d : PyData), vs = [.ref L.p, x] ∧ WoodAt K H L ∧ Good L.wd ∧ Dp K H x d ∧ SeqAt.shaped d = true ∧
  (underOk L.wd d = false → Bad K E .no H) ∧ (∀ n, d = .int n → underOk L.wd d = true → ∀ H', Same H H' → Q (.int (manyR L.rows n : Nat)) H')
abbrev N_Wood_many : List Str := ["self", "number", "one"]
theorem sc_Wood_many : FnScope N_Wood_many ["self", "number"] (defScope s_Wood_many) := ⟨rfl, rfl, rfl, by decide +kernel, rfl, by decide +kernel, by decide +kernel⟩
theorem be_Wood_many : BindEq "many" "Wood.many" s_Wood_many ["self", "number"] := fun _ _ _ _ _ _ us hl => match us, hl with | [_, _], _ => rfl
theorem D_Wood_many (T : Txt K mg base) : Def P w K mg base 13 (He.ma K (He.ga K "Wood") "many") ["self", "number"] (spMany K) := by
  refine mk_def T.f_Wood_many sc_Wood_many be_Wood_many (fun vs H Q E h => ?_) (fun cdv A outer s H vs Q E hr h => ?_)
  · obtain ⟨L, x, d, rfl, _⟩ := h
    rfl
  · obtain ⟨L, x, d, rfl, W, G, hx, hsh, k0, k1⟩ := h
    refine ⟨_, (pss_one (ps_ret (pe_callB call_len_seq (by rfl) T.b_len (by decide +kernel) (pa_cons (pe_lc (own := [("one", 2)]) (g := gName 2) rfl sc_Wood_many.nd (pi_list (pe_md (pv 0) T.c_Wood.c T.m_Wood_below (D_Wood_below T) (by exact hr.mono (by first | decide | omega)) passE (pa_cons (pv 1) pa_nil))) (blkOk_by (N := N_Wood_many) (sc := defScope s_Wood_many) (by decide +kernel)) (fun _ _ _ _ _ => by exact (pg_name (i := 2) sc_Wood_many.nd rfl (Or.inl rfl))) (fun _ _ _ _ _ => by exact (pts_one (pt_not (pt_val (pe_fldK K (pe_dg (pe_fldK K (pv 0)) (pv 2) (by exact hu_of hr))))))) (fun _ _ _ _ _ => by exact (pv 2))) pa_nil)))), ?_⟩
    walk_at "rd"
    cases hu : underOk L.wd d with
    | false =>
      refine ⟨_, rfl, L.p, _, _, rfl, W.top, fw_no _ _ _ (by decide) (by decide) (by decide), _, rfl, L, x, d, rfl, W, G, hx, hsh, fun n e => by omega, k0, fun n e h => ?_⟩
      rw [hu] at h
      cases h
    | true =>
      obtain ⟨n, rfl⟩ : ∃ n, d = .int n := by
        cases d with
        | int n => exact ⟨n, rfl⟩
        | _ => cases hu
      cases hx
      have ln : L.rows.length ≤ 60 := G.len
      have hle : (beneathR L.rows n).length ≤ L.rows.length := by
        unfold beneathR
        exact Nat.le_trans (List.length_filter_le _ _) (by rw [List.length_map]; omega)
      refine lcL (l := sortI (beneathR L.rows n)) V.int (fun m => if (((findR L.rows m).map fun r => !r.struck).getD false) = true then some (.int m) else none) (fun R r => ?_) (by rw [sortI_length, sizeLine_eq]; omega) (fun m H' hm s1 N1 N0 q1 q0 => ?_) (fun D H' hD s1 e => ?_)
      · walk_at "rd"
        refine ⟨_, _, W.top, fw_no _ _ _ (by decide) (by decide) (by decide), L, .int n, .int n, rfl, W, G, .int n, hsh, fun n e => by omega, k0, fun m e _ p H' hp s1 hl => ?_⟩
        cases e
        exact r p H' s1 (SqL.of hl)
      · have W1 := W.same s1
        obtain ⟨⟨r, hr⟩, _⟩ := mem_beneath.mp ((sortI_perm _).mem_iff.mp hm)
        obtain ⟨e, he, eq⟩ := List.mem_map.mp hr
        cases eq
        have fe := findE_of W.nk he
        have S := W1.say e he
        have eu : findR L.rows e.n = some e.row := by rw [L.find, fe]; rfl
        walk_at "rd"
        refine W1.fsay T (W1.at fe ⟨_, rfl, S.fstruck T ⟨_, rfl, ?_⟩⟩)
        cases c : e.row.struck with
        | false => exact iteT (q1 _ _ (Same.refl _) (if_pos (by rw [eu]; simp [c])))
        | true => exact iteF (q0 _ (Same.refl _) (if_neg (by rw [eu]; simp [c])))
      · refine ⟨_, rfl, _, .inl (SqL.of e), ?_⟩
        rw [filterMap_if, List.length_map]
        have : ((sortI (beneathR L.rows n)).filter fun p => decide ((((findR L.rows p).map fun r => !r.struck).getD false) = true)).length = manyR L.rows n := by
          unfold manyR
          refine ((sortI_perm _).filter _).length_eq.trans ?_
          simp
        rw [this]
        exact k1 n rfl hu H' s1
def spStanding (K : PySem.W.Frag) : Sp := fun vs H Q E => ∃ (L : Lay) (x : V) (d : PyData), vs = [.ref L.p, x] ∧ WoodAt K H L ∧ Dp K H x d ∧ Short d ∧
  (nameOk d = false → ∀ H', Same H H' → Bad K E .name H') ∧ (∀ z, d = .str z → nameOk d = true → ∀ H', Same H H' → Q (.int (standingM L.wd z)) H')
abbrev N_Wood_standing : List Str := ["self", "by", "some", "number", "one"]
theorem sc_Wood_standing : FnScope N_Wood_standing ["self", "by"] (defScope s_Wood_standing) := ⟨rfl, rfl, rfl, by decide +kernel, rfl, by decide +kernel, by decide +kernel⟩
theorem be_Wood_standing : BindEq "standing" "Wood.standing" s_Wood_standing ["self", "by"] := fun _ _ _ _ _ _ us hl => match us, hl with | [_, _], _ => rfl
theorem D_Wood_standing (T : Txt K mg base) : Def P w K mg base 3 (He.ma K (He.ga K "Wood") "standing") ["self", "by"] (spStanding K) := by
  refine mk_def T.f_Wood_standing sc_Wood_standing be_Wood_standing (fun vs H Q E h => ?_) (fun cdv A outer s H vs Q E hr h => ?_)
  · obtain ⟨L, x, d, rfl, _⟩ := h
    rfl
  · obtain ⟨L, x, d, rfl, W, hx, hz, k0, k1⟩ := h
    refine ⟨_, (pss_cons (ps_expr (pe_cd (D_need_name T) (by exact hr.mono (by first | decide | omega)) T.g_need_name passE (pa_cons (pv 1) pa_nil)))
      (pss_cons (ps_lock (ps_setLc (i := 2) (own := [("number", 3)]) (g := gName 3) rfl sc_Wood_standing.nd rfl rfl (sw_true rfl rfl rfl (by decide +kernel)) (pi_keys (pe_fld (pv 0) (by rfl))) (blkOk_by (N := N_Wood_standing) (sc := defScope s_Wood_standing) (by decide +kernel)) (fun _ _ _ _ _ => by exact (pg_name (i := 3) sc_Wood_standing.nd rfl (Or.inl rfl))) (fun _ _ _ _ _ => pts_nil) (fun _ _ _ _ _ => by exact (pe_dg (pe_fldK K (pv 0)) (pv 3) (by exact hu_of hr)))))
      (pss_one (ps_ret (pe_callB (cr_sum rfl) (by rfl) T.b_sum (by decide +kernel) (pa_cons (pe_lc (own := [("one", 4)]) (g := gName 4) rfl sc_Wood_standing.nd (pi_list (pv 2)) (blkOk_by (N := N_Wood_standing) (sc := defScope s_Wood_standing) (by decide +kernel)) (fun _ _ _ _ _ => by exact (pg_name (i := 4) sc_Wood_standing.nd rfl (Or.inl rfl))) (fun _ _ _ _ _ => by exact (pts_one (PW.pt (pw_and (pt_cmpR op_eq (pe_fldK K (pv 4)) (pv 1) (nomark _)) (pw_and1 (pt_not (pt_val (pe_fldK K (pv 4))))))))) (fun _ _ _ _ _ => by exact (pe_md0 (pv 4) T.c_Saying.c T.m_Saying_points (D_Saying_points T) (by exact hr.mono (by first | decide | omega)) passF))) pa_nil)))))), ?_⟩
    walk_at "rd"
    refine ⟨x, d, rfl, hx, hz, fun hn H1 s1 => ?_, k0⟩
    have W1 := W.same s1
    cases hx with
    | str z =>
      refine lkA (lcK (l := L.ents) (d := L.d) entK (fun e => some (.ref e.a)) W1.dic (fun H' R hk q => ?_) (by have := W.sz; rw [sizeLine_eq]; omega) (fun e H' od he hk hv N1 N0 q1 q0 => ?_) (fun D H' hD s2 e => ?_))
      · walk_at "rd"
        exact fld (hk _ _ (ne_of W1.top W1.dic (by intro q; cases q)) W1.top) T.c_Wood.c T.n_Wood_sayings (fw_sayings _ _ _) q
      · walk_at "rd"
        refine fld (hk _ _ (ne_of W1.top W1.dic (by intro q; cases q)) W1.top) T.c_Wood.c T.n_Wood_sayings (fw_sayings _ _ _) ⟨_, rfl, _, .inl ⟨_, _, .inr ⟨_, hv⟩, rfl, ?_⟩, q1 _ _ (Same.refl _) rfl⟩
        show _ = valV _ (Sum.inl e.n)
        rw [valE, findE_of W.nk he]
        rfl
      · have W2 := W1.same s2
        have e : H' D = some (.lst (L.ents.map fun e => V.ref e.a)) := by rw [e, List.filterMap_eq_map']
        walk_at "rd"
        refine lcL (l := L.ents) (fun e => .ref e.a) (fun e => if e.row.who = z ∧ e.row.struck = false then some (.int e.row.points) else none) (fun R r => ⟨_, rfl, r D H' (Same.refl _) (SqL.of e)⟩) (by have := W.sz; rw [sizeLine_eq]; omega) (fun e H3 he s3 N1 N0 q1 q0 => ?_) (fun D2 H3 hD2 s3 e3 => ?_)
        · have S := W2.say e he
          have S := S.same s3
          walk_at "rd"
          refine S.fby T ⟨rfl, ?_⟩
          by_cases c : e.row.who = z
          · rw [decide_eq_true (show V.str e.row.who = V.str z by rw [c])]
            refine iteT (S.fstruck T ⟨_, rfl, ?_⟩)
            cases b : e.row.struck with
            | false =>
              refine iteT ⟨_, _, S.o, fs_points _ _, _, _, _, _, rfl, S, fun H4 s4 => q1 _ _ s4 (if_pos ⟨c, b⟩)⟩
            | true => exact iteF (q0 _ (Same.refl _) (if_neg (by rw [b]; simp)))
          · rw [decide_eq_false (show ¬ V.str e.row.who = V.str z from fun q => c (V.str.inj q))]
            exact iteF (q0 _ (Same.refl _) (if_neg fun h => c h.1))
        · refine ⟨_, _, rfl, SqL.of (xs := ((L.ents.filter fun e => decide (e.row.who = z ∧ e.row.struck = false)).map fun e => e.row.points).map V.int) ?_, ?_⟩
          · rw [e3, filterMap_if, List.map_map]
            rfl
          · have es : ((L.ents.filter fun e => decide (e.row.who = z ∧ e.row.struck = false)).map fun e => e.row.points).sum = standingM L.wd z := by
              unfold standingM Lay.wd Lay.rows
              rw [List.filter_map, List.map_map]
              congr 2
              apply List.filter_congr
              intro e _
              show decide (e.row.who = z ∧ e.row.struck = false) = (decide (e.row.who = z) && !e.row.struck)
              cases e.row.struck <;> simp
            rw [es]
            exact k1 z rfl hn H3 ((s1.trans s2).trans s3)
    | _ => cases hn
end
end Vw
namespace Vw
open PySem PySem.Spec PyProof.Rows L2
local macro_rules | `(tactic| walk_at "rd") => `(tactic| simp only [tSeq, tNext, tIfS, tAsg, tRet, tRetN, tDrop, tVar, tC, tOp, tUn, tTest, tB, tAnd, tOr, tNot, tAndV, tOrV, tNotV, tIf, tChain, tCB, tCons, tNil, tCall, tMeth, tMake, tFld, sFld, tTup, tLst, tTupS, tLstS, tDNewKS, tDNewTS, tTold, tCmp, t2I, tIsN, tNotN, tPar, gName, gNil, gCons, gTup, gSub, rI0, rU, rEq, rNe, tDGet, tDIn, tDNotIn, sDPut, tDNewK, tDGet1, tDGet2, tDPop1, tDPop2, tBM, tBM0, tM0, tM1, tSl, tPart, tNoPart, tBreak, tCont, tThru, L2.start, List.map_cons, List.map_nil, List.length_cons, List.length_nil, List.cons_append, List.nil_append, List.append_nil, List.replicate_succ, List.replicate_zero, Nat.reduceAdd, Nat.reduceSub, Nat.zero_add, List.getElem?_cons_zero, List.getElem?_cons_succ, List.set_cons_zero, List.set_cons_succ, wipe, cxOf_K, tYes, List.cons.injEq, and_self, Option.some.injEq, V.int.injEq, V.bl.injEq, V.ref.injEq, V.str.injEq, exists_eq_left', exists_eq_left, exists_and_left, and_assoc, true_and, and_true, if_true, if_false, ite_true, ite_false, Bool.not_true, Bool.not_false, Bool.false_eq_true, reduceIte])
/-! ### a wood that is changed: what it stands on, a step -/
def foot (L : Lay) : List Addr := L.p :: L.d :: (L.ents.map (·.a) ++ L.ents.map (·.v))
structure Step (H : Hp) (L : Lay) (H' : Hp) (L' : Lay) : Prop where
  p : L'.p = L.p
  keep : ∀ b o, b ∉ foot L → H b = some o → H' b = some o
  new : ∀ b ∈ foot L', b ∈ foot L ∨ H b = none
theorem Step.same {H H' : Hp} {L : Lay} (s : Same H H') : Step H L H' L := ⟨rfl, fun b o _ e => s b o e, fun b hb => .inl hb⟩
theorem Step.trans {H H1 H2 : Hp} {L L1 L2 : Lay} (a : Step H L H1 L1) (b : Step H1 L1 H2 L2) : Step H L H2 L2 := by
  refine ⟨b.p.trans a.p, fun c o hc e => b.keep c o (fun h => ?_) (a.keep c o hc e), fun c hc => ?_⟩
  · rcases a.new c h with z | z
    · exact hc z
    · rw [z] at e
      cases e
  · rcases b.new c hc with z | z
    · exact a.new c z
    · by_cases h : c ∈ foot L
      · exact .inl h
      · right
        cases q : H c with
        | none => rfl
        | some o =>
          rw [a.keep c o h q] at z
          cases z
theorem inj_nodup {α β : Type} {f : α → β} : ∀ {l : List α}, (l.map f).Nodup → ∀ {a b : α}, a ∈ l → b ∈ l → f a = f b → a = b
  | [], _, _, _, h, _, _ => by cases h
  | c :: r, h, a, b, ha, hb, e => by
    simp only [List.map_cons, List.nodup_cons] at h
    rcases List.mem_cons.mp ha with h1 | h1
    · rcases List.mem_cons.mp hb with h2 | h2
      · rw [h1, h2]
      · exact absurd (List.mem_map.mpr ⟨b, h2, by rw [← e, h1]⟩) h.1
    · rcases List.mem_cons.mp hb with h2 | h2
      · exact absurd (List.mem_map.mpr ⟨a, h1, by rw [e, h2]⟩) h.1
      · exact inj_nodup h.2 h1 h2 e
def setE (es : List Ent) (n : Int) (r : Row) : List Ent := es.map fun e => if e.n = n then { e with row := r } else e
theorem setE_map {β : Type} (f : Ent → β) (hf : ∀ e r, f { e with row := r } = f e) (es : List Ent) (n : Int) (r : Row) : (setE es n r).map f = es.map f := by
  unfold setE
  rw [List.map_map]
  apply List.map_congr_left
  intro e _
  show f (if e.n = n then _ else _) = f e
  split
  · exact hf e r
  · rfl
theorem setE_rows (es : List Ent) (n : Int) (r : Row) : (setE es n r).map (fun e => (e.n, e.row)) = setR (es.map fun e => (e.n, e.row)) n r := by
  unfold setE setR
  rw [List.map_map, List.map_map]
  apply List.map_congr_left
  intro e _
  show ((if e.n = n then { e with row := r } else e).n, (if e.n = n then { e with row := r } else e).row) = if e.n = n then (n, r) else (e.n, e.row)
  by_cases h : e.n = n <;> simp [h]
theorem mem_setE {es : List Ent} {n : Int} {r : Row} {e : Ent} (h : e ∈ setE es n r) : ∃ e0 ∈ es, e.a = e0.a ∧ e.x = e0.x ∧ e.v = e0.v ∧ e.n = e0.n ∧ ((e0.n = n ∧ e.row = r) ∨ (e0.n ≠ n ∧ e = e0)) := by
  obtain ⟨e0, h0, rfl⟩ := List.mem_map.mp h
  refine ⟨e0, h0, ?_⟩
  by_cases c : e0.n = n
  · simp [c]
  · simp [c]
/-- the row of one entry is another one: its object, its votes may be written -/
theorem WoodAt.set {K : PySem.W.Frag} {H H' : Hp} {L : Lay} (W : WoodAt K H L) {e : Ent} (he : e ∈ L.ents) {r : Row} (S : SayAt K H' e.a e.x e.v r) (k : ∀ b o, b ≠ e.a → b ≠ e.v → H b = some o → H' b = some o) : WoodAt K H' { L with ents := setE L.ents e.n r } := by
  have Se := W.say e he
  have n1 : L.p ≠ e.v := ne_of W.top Se.d (by intro q; cases q)
  have n2 : L.d ≠ e.a := ne_of W.dic Se.o (by intro q; cases q)
  refine ⟨k _ _ (W.pa e he).symm n1 W.top, ?_, fun e' h' => ?_, ?_, ?_, ?_, fun e' h' => ?_, fun e' h' => ?_, ?_⟩
  · show H' L.d = some (.dK ((setE L.ents e.n r).map entK))
    rw [setE_map entK (fun _ _ => rfl)]
    exact k _ _ n2 (W.dv e he).symm W.dic
  · obtain ⟨e0, h0, ha, hx, hv, hn, h⟩ := mem_setE h'
    rcases h with ⟨hn0, hr⟩ | ⟨hn0, rfl⟩
    · have : e0 = e := inj_nodup W.nk h0 he hn0
      subst this
      rw [ha, hx, hv, hr]
      exact S
    · have S0 := W.say e' h0
      have na : e'.a ≠ e.a := fun z => hn0 (congrArg Ent.n (inj_nodup W.nda h0 he z))
      have nv : e'.v ≠ e.v := fun z => hn0 (congrArg Ent.n (inj_nodup W.ndv h0 he z))
      exact ⟨k _ _ na (ne_of S0.o Se.d (by intro q; cases q)) S0.o, k _ _ (ne_of S0.d Se.o (by intro q; cases q)) nv S0.d, S0.nd, S0.sz⟩
  · show ((setE L.ents e.n r).map (·.n)).Nodup
    rw [setE_map _ (fun _ _ => rfl)]
    exact W.nk
  · show ((setE L.ents e.n r).map (·.a)).Nodup
    rw [setE_map _ (fun _ _ => rfl)]
    exact W.nda
  · show ((setE L.ents e.n r).map (·.v)).Nodup
    rw [setE_map _ (fun _ _ => rfl)]
    exact W.ndv
  · obtain ⟨e0, h0, ha, hx, hv, hn, _⟩ := mem_setE h'
    rw [hv]
    exact W.dv e0 h0
  · obtain ⟨e0, h0, ha, hx, hv, hn, _⟩ := mem_setE h'
    rw [ha]
    exact W.pa e0 h0
  · show (setE L.ents e.n r).length < 100000
    unfold setE
    rw [List.length_map]
    exact W.sz
theorem foot_set (L : Lay) (n : Int) (r : Row) : foot { L with ents := setE L.ents n r } = foot L := by
  unfold foot
  show L.p :: L.d :: ((setE L.ents n r).map (·.a) ++ (setE L.ents n r).map (·.v)) = _
  rw [setE_map _ (fun _ _ => rfl), setE_map _ (fun _ _ => rfl)]
theorem mem_foot_a {L : Lay} {e : Ent} (he : e ∈ L.ents) : e.a ∈ foot L := List.mem_cons_of_mem _ (List.mem_cons_of_mem _ (List.mem_append_left _ (List.mem_map.mpr ⟨e, he, rfl⟩)))
theorem mem_foot_v {L : Lay} {e : Ent} (he : e ∈ L.ents) : e.v ∈ foot L := List.mem_cons_of_mem _ (List.mem_cons_of_mem _ (List.mem_append_right _ (List.mem_map.mpr ⟨e, he, rfl⟩)))
theorem Step.set {H H' : Hp} {L : Lay} {e : Ent} (he : e ∈ L.ents) {r : Row} (k : ∀ b o, b ≠ e.a → b ≠ e.v → H b = some o → H' b = some o) : Step H L H' { L with ents := setE L.ents e.n r } :=
  ⟨rfl, fun b o hb q => k b o (fun z => hb (z ▸ mem_foot_a he)) (fun z => hb (z ▸ mem_foot_v he)) q, fun b hb => .inl (by rw [foot_set] at hb; exact hb)⟩
/-- one entry goes -/
theorem WoodAt.pop {K : PySem.W.Frag} {H : Hp} {L : Lay} (W : WoodAt K H L) (n : Int) : WoodAt K (upd H L.d (.dK (dropK (L.ents.map entK) (Sum.inl n)))) { L with ents := L.ents.filter fun e => decide (e.n ≠ n) } := by
  have sub : (L.ents.filter fun e => decide (e.n ≠ n)).Sublist L.ents := List.filter_sublist
  have npd : L.p ≠ L.d := ne_of W.top W.dic (by intro q; cases q)
  refine ⟨by show upd H L.d _ L.p = _; rw [upd_ne npd]; exact W.top, ?_, fun e he => ?_, W.nk.sublist (sub.map _), W.nda.sublist (sub.map _), W.ndv.sublist (sub.map _), fun e he => W.dv e (sub.mem he), fun e he => W.pa e (sub.mem he), Nat.lt_of_le_of_lt sub.length_le W.sz⟩
  · show upd H L.d _ L.d = some (.dK ((L.ents.filter fun e => decide (e.n ≠ n)).map entK))
    rw [upd_same]
    unfold dropK
    rw [List.filter_map]
    congr 3
    apply List.filter_congr
    intro e _
    show decide ((Sum.inl e.n : Key) ≠ Sum.inl n) = decide (e.n ≠ n)
    simp
  · have S := W.say e (sub.mem he)
    exact ⟨by rw [upd_ne (ne_of S.o W.dic (by intro q; cases q))]; exact S.o, by rw [upd_ne (W.dv e (sub.mem he))]; exact S.d, S.nd, S.sz⟩
theorem Step.pop {H : Hp} {L : Lay} (n : Int) (o : HO) : Step H L (upd H L.d o) { L with ents := L.ents.filter fun e => decide (e.n ≠ n) } := by
  refine ⟨rfl, fun b u hb e => ?_, fun b hb => .inl ?_⟩
  · rw [upd_ne (fun z => hb (by rw [z]; exact List.mem_cons_of_mem _ List.mem_cons_self))]
    exact e
  · have sub : (L.ents.filter fun e => decide (e.n ≠ n)).Sublist L.ents := List.filter_sublist
    have hb : b ∈ L.p :: L.d :: ((L.ents.filter fun e => decide (e.n ≠ n)).map (·.a) ++ (L.ents.filter fun e => decide (e.n ≠ n)).map (·.v)) := hb
    exact (List.Sublist.cons₂ _ (List.Sublist.cons₂ _ ((sub.map _).append (sub.map _)))).mem hb
theorem pop_rows (L : Lay) (n : Int) : ({ L with ents := L.ents.filter fun e => decide (e.n ≠ n) } : Lay).rows = dropR L.rows n := by
  unfold Lay.rows dropR
  rw [List.filter_map]
  rfl
theorem dropK_votes (vs : List (Str × Int)) (who : Str) : dropK (votesK vs) (Sum.inr who) = votesK (vs.filter fun p => decide (p.1 ≠ who)) := by
  unfold dropK votesK
  rw [List.filter_map]
  congr 1
  apply List.filter_congr
  intro p _
  show decide ((Sum.inr p.1 : Key) ≠ Sum.inr who) = decide (p.1 ≠ who)
  simp
theorem votes_none {vs : List (Str × Int)} {who : Str} (h : valV (votesK vs) (Sum.inr who) = none) : ∀ p ∈ vs, p.1 ≠ who := fun p hp e => by
  have q := valV_not h
  apply q
  unfold votesK
  rw [List.map_map]
  exact List.mem_map.mpr ⟨p, hp, by rw [← e]; rfl⟩
/-- votes.pop(who, None) -/
theorem pop_any {H : Hp} {v : Addr} {vs : List (Str × Int)} {who : Str} {G : Hp → Prop} (h : H v = some (.dK (votesK vs)))
    (g : ∀ H2, H2 v = some (.dK (votesK (vs.filter fun p => decide (p.1 ≠ who)))) → (∀ b o, b ≠ v → H b = some o → H2 b = some o) → G H2) :
    ∃ a, V.ref v = V.ref a ∧ IsD H a ∧ ∃ kvs, H a = some (.dK kvs) ∧ ∃ k, V.str who = kV k ∧ (∀ u, valV kvs k = some u → G (upd H a (.dK (dropK kvs k)))) ∧ (valV kvs k = none → G H) := by
  refine ⟨v, rfl, .inl ⟨_, .inl h⟩, _, h, Sum.inr who, rfl, fun u _ => g _ ?_ fun b o hb e => by rw [upd_ne hb]; exact e, fun hn => g H ?_ fun _ _ _ e => e⟩
  · rw [upd_same, dropK_votes]
  · have z := votes_none hn
    have : vs.filter (fun p => decide (p.1 ≠ who)) = vs := List.filter_eq_self.mpr fun p hp => by simpa using z p hp
    rw [this]
    exact h
section
variable {P : Program} {w : World} {K : PySem.W.Frag} {mg : Str → Option Value} {base : Heap}
/-- what a deed that changes the wood leaves -/
def Told (K : PySem.W.Frag) (H : Hp) (L : Lay) (Q : VK) (E : XK) (v : V) (r : Except Er Wd) : Prop :=
  (∀ M, r = .ok M → ∀ H' L', WoodAt K H' L' → L'.wd = M → Step H L H' L' → Q v H') ∧ (∀ e, r = .error e → ∀ H', Same H H' → Bad K E e H')
def spChange (K : PySem.W.Frag) : Sp := fun vs H Q E => ∃ (L : Lay) (x y z : V) (d b t : PyData), vs = [.ref L.p, x, y, z] ∧ WoodAt K H L ∧ Dp K H x d ∧ Dp K H y b ∧ Dp K H z t ∧ Short b ∧ Short t ∧ Told K H L Q E .non (changeM L.wd d b t)
abbrev N_Wood_change : List Str := ["self", "number", "by", "text", "one"]
theorem sc_Wood_change : FnScope N_Wood_change ["self", "number", "by", "text"] (defScope s_Wood_change) := ⟨rfl, rfl, rfl, by decide +kernel, rfl, by decide +kernel, by decide +kernel⟩
theorem be_Wood_change : BindEq "change" "Wood.change" s_Wood_change ["self", "number", "by", "text"] := fun _ _ _ _ _ _ us hl => match us, hl with | [_, _, _, _], _ => rfl
theorem D_Wood_change (T : Txt K mg base) : Def P w K mg base 4 (He.ma K (He.ga K "Wood") "change") ["self", "number", "by", "text"] (spChange K) := by
  refine mk_def T.f_Wood_change sc_Wood_change be_Wood_change (fun vs H Q E h => ?_) (fun cdv A outer s H vs Q E hr h => ?_)
  · obtain ⟨L, x, y, z, d, b, t, rfl, _⟩ := h
    rfl
  · obtain ⟨L, x, y, z, d, b, t, rfl, W, hx, hy, hz, sb, st, k1, k0⟩ := h
    refine ⟨_, (pss_cons (ps_set (i := 4) sc_Wood_change.nd rfl (Or.inl rfl) (pe_md (pv 0) T.c_Wood.c T.m_Wood_own (D_Wood_own T) (by exact hr.mono (by first | decide | omega)) passE (pa_cons (pv 1) (pa_cons (pv 2) pa_nil))))
      (pss_cons (ps_expr (pe_cd (D_need_text T) (by exact hr.mono (by first | decide | omega)) T.g_need_text passE (pa_cons (pv 3) pa_nil)))
      (pss_one (ps_fld (pv 4) (pv 3) (by rfl))))), ?_⟩
    walk_at "rd"
    refine ⟨_, _, W.top, fw_no _ _ _ (by decide) (by decide) (by decide), L, x, y, d, b, rfl, W, hx, hy, sb, fun r hr H1 s1 => k0 r ?_ H1 s1, fun n r hr e he er H1 s1 => ?_⟩
    · unfold changeM
      rw [hr]
    · have W1 := W.same s1
      refine ⟨z, t, rfl, dp_same s1 hz, st, fun ht H2 s2 => ?_, fun ht H2 s2 => k0 .text ?_ H2 (s1.trans s2)⟩
      · have W2 := W1.same s2
        have S := W2.say e (findE_mem he).1
        cases hz with
        | str u =>
          have en := (findE_mem he).2
          have nva : e.v ≠ e.a := ne_of S.d S.o (by intro q; cases q)
          refine ⟨_, rfl, _, _, _, S.o, T.c_Saying.c, T.n_Saying_text, by rw [fs_len]; decide, ?_⟩
          rw [fp_text]
          have kp : ∀ b o, b ≠ e.a → b ≠ e.v → H2 b = some o → upd H2 e.a (.ins (cS K) e.x (sayFs { e.row with text := u } e.v)) b = some o := fun b o h1 _ q => by rw [upd_ne h1]; exact q
          refine k1 { L.wd with rows := setR L.rows n { r with text := u } } ?_ _ _ (W2.set (findE_mem he).1 (r := { e.row with text := u }) ⟨upd_same, by rw [upd_ne nva]; exact S.d, S.nd, S.sz⟩ kp) ?_ ((Step.same (s1.trans s2)).trans (Step.set (findE_mem he).1 kp))
          · unfold changeM
            rw [hr]
            exact if_pos ht
          · rw [en, ← er]
            unfold Lay.wd Lay.rows
            rw [setE_rows]
        | _ => cases ht
      · unfold changeM
        rw [hr]
        cases t with
        | str u => exact if_neg (by simpa [textOk] using ht)
        | _ => rfl
def spVote (K : PySem.W.Frag) : Sp := fun vs H Q E => ∃ (L : Lay) (x y z : V) (d b t : PyData), vs = [.ref L.p, x, y, z] ∧ WoodAt K H L ∧ Dp K H x d ∧ Dp K H y b ∧ Dp K H z t ∧ Short b ∧ (∀ e ∈ L.ents, e.row.votes.length < 99999) ∧
  (∀ p M, voteM L.wd d b t = .ok (p, M) → ∀ H' L', WoodAt K H' L' → L'.wd = M → Step H L H' L' → Q (.int p) H') ∧ (∀ e, voteM L.wd d b t = .error e → ∀ H', Same H H' → Bad K E e H')
abbrev N_Wood_vote : List Str := ["self", "number", "by", "way", "one"]
theorem sc_Wood_vote : FnScope N_Wood_vote ["self", "number", "by", "way"] (defScope s_Wood_vote) := ⟨rfl, rfl, rfl, by decide +kernel, rfl, by decide +kernel, by decide +kernel⟩
theorem be_Wood_vote : BindEq "vote" "Wood.vote" s_Wood_vote ["self", "number", "by", "way"] := fun _ _ _ _ _ _ us hl => match us, hl with | [_, _, _, _], _ => rfl
theorem D_Wood_vote (T : Txt K mg base) : Def P w K mg base 3 (He.ma K (He.ga K "Wood") "vote") ["self", "number", "by", "way"] (spVote K) := by
  refine mk_def T.f_Wood_vote sc_Wood_vote be_Wood_vote (fun vs H Q E h => ?_) (fun cdv A outer s H vs Q E hr h => ?_)
  · obtain ⟨L, x, y, z, d, b, t, rfl, _⟩ := h
    rfl
  · obtain ⟨L, x, y, z, d, b, t, rfl, W, hx, hy, hz, sb, hsz, k1, k0⟩ := h
    refine ⟨_, (pss_cons (ps_set (i := 4) sc_Wood_vote.nd rfl (Or.inl rfl) (pe_md (pv 0) T.c_Wood.c T.m_Wood_saying (D_Wood_saying T) (by exact hr.mono (by first | decide | omega)) passE (pa_cons (pv 1) pa_nil)))
      (pss_cons (ps_expr (pe_cd (D_need_name T) (by exact hr.mono (by first | decide | omega)) T.g_need_name passE (pa_cons (pv 2) pa_nil)))
      (pss_cons (ps_if (pt_not (pt_val (pe_cd (D_is_count T) (by exact hr.mono (by first | decide | omega)) T.g_is_count passE (pa_cons (pv 3) (pa_cons (pe_un un_neg pe_int) (pa_cons pe_int pa_nil)))))) (pss_one (ps_rs T.x_BadNumber)) pss_nil)
      (pss_cons (ps_if (PW.pt (pw_or (pt_cmpR op_eq (pe_fld (pv 4) (by rfl)) (pv 2) (nomark _)) (pw_or1 (pt_val (pe_fld (pv 4) (by rfl)))))) (pss_one (ps_rs T.x_NotYours)) pss_nil)
      (pss_cons (ps_expr (pe_dp2 (pe_fld (pv 4) (by rfl)) (pv 2) pe_non))
      (C8.pss_cut (ps_if (pt_cmpR op_ne (pv 3) pe_int (nomark _)) (pss_one (ps_dp (pe_fld (pv 4) (by rfl)) (pv 2) (pv 3) (by exact hu_of hr))) pss_nil)
      (pss_one (ps_ret (pe_md0 (pv 4) T.c_Saying.c T.m_Saying_points (D_Saying_points T) (by exact hr.mono (by first | decide | omega)) passE))))))))), ?_⟩
    walk_at "rd"
    refine ⟨_, _, W.top, fw_no _ _ _ (by decide) (by decide) (by decide), L, x, d, rfl, W, hx, fun e he => ?_, fun h => k0 .no ?_ H (Same.refl H)⟩
    · have em : sayingM L.wd d = some (e.n, e.row) := by rw [sayingME, he]; rfl
      have hm := sayingD_mem he
      refine ⟨y, b, rfl, hy, sb, fun hb H1 s1 => ?_, fun hb H1 s1 => k0 .name ?_ H1 s1⟩
      · have hb0 : ¬ nameOk b = false := by rw [hb]; decide
        have W1 := W.same s1
        have S := W1.say e hm
        refine ⟨z, t, _, _, rfl, dp_same s1 hz, _, rfl, ?_⟩
        cases hc : isCount t (-1) 1 with
        | false =>
          refine iteT (k0 .number ?_ H1 s1)
          unfold voteM
          rw [em]
          show (if nameOk b = false then _ else if isCount t (-1) 1 = false then _ else _) = _
          rw [if_neg hb0, if_pos hc]
        | true =>
          refine iteF ?_
          have hc0 : ¬ isCount t (-1) 1 = false := by rw [hc]; decide
          cases hz with
          | int way =>
            cases hy with
            | str who =>
              have ev : voteM L.wd d (.str who) (.int way) = if e.row.who = who ∨ e.row.struck = true then .error .yours else .ok (Row.points { e.row with votes := votesM e.row.votes who way }, { L.wd with rows := setR L.wd.rows e.n { e.row with votes := votesM e.row.votes who way } }) := by
                unfold voteM
                rw [em]
                show (if nameOk (.str who) = false then _ else if isCount (.int way) (-1) 1 = false then _ else _) = _
                rw [if_neg hb0, if_neg hc0]
              refine ⟨_, rfl, S.fby T ⟨rfl, ?_⟩⟩
              by_cases hw : e.row.who = who
              · rw [decide_eq_true (show V.str e.row.who = V.str who by rw [hw])]
                refine iteT (k0 .yours ?_ H1 s1)
                rw [ev, if_pos (.inl hw)]
              · rw [decide_eq_false (show ¬ V.str e.row.who = V.str who from fun q => hw (V.str.inj q))]
                refine iteF ⟨_, rfl, S.fstruck T ⟨_, rfl, ?_⟩⟩
                cases hst : e.row.struck with
                | true =>
                  refine iteT (k0 .yours ?_ H1 s1)
                  rw [ev, if_pos (.inr hst)]
                | false =>
                  refine iteF ⟨_, rfl, S.fvotes T (pop_any S.d fun H2 h2 q2 => ?_)⟩
                  have nva : e.a ≠ e.v := ne_of S.o S.d (by intro q; cases q)
                  have o2 := q2 _ _ nva S.o
                  have ndf : ((e.row.votes.filter fun p => decide (p.1 ≠ who)).map (·.1)).Nodup := S.nd.sublist (List.Sublist.map _ List.filter_sublist)
                  have szf : (e.row.votes.filter fun p => decide (p.1 ≠ who)).length ≤ e.row.votes.length := List.length_filter_le _ _
                  have sz := hsz e hm
                  have fin : ∀ H3, SayAt K H3 e.a e.x e.v { e.row with votes := votesM e.row.votes who way } → (∀ b o, b ≠ e.a → b ≠ e.v → H1 b = some o → H3 b = some o) → ∀ H4, Same H3 H4 → Q (.int (Row.points { e.row with votes := votesM e.row.votes who way })) H4 := fun H3 S3 k3 H4 s4 => by
                    refine k1 _ { L.wd with rows := setR L.rows e.n { e.row with votes := votesM e.row.votes who way } } ?_ H4 _ ((W1.set hm S3 k3).same s4) ?_ (((Step.same s1).trans (Step.set hm k3)).trans (Step.same s4))
                    · rw [ev, if_neg (by simp [hw, hst])]
                      rfl
                    · unfold Lay.wd Lay.rows
                      rw [setE_rows]
                  refine ⟨fun σ' H3 => σ' = [some (.ref L.p), some x, some (.str who), some (.int way), some (.ref e.a)] ∧ SayAt K H3 e.a e.x e.v { e.row with votes := votesM e.row.votes who way } ∧ (∀ b o, b ≠ e.a → b ≠ e.v → H1 b = some o → H3 b = some o), ?_, ?_⟩
                  · walk_at "rd"
                    refine ⟨rfl, ?_⟩
                    by_cases w0 : way = 0
                    · rw [decide_eq_true w0]
                      have ev0 : votesM e.row.votes who way = e.row.votes.filter fun p => decide (p.1 ≠ who) := if_pos w0
                      refine iteF ⟨⟨o2, by rw [h2]; show _ = some (HO.dK (votesK (votesM e.row.votes who way))); rw [ev0], by show ((votesM e.row.votes who way).map (·.1)).Nodup; rw [ev0]; exact ndf, by show (votesM e.row.votes who way).length < 100000; rw [ev0]; omega⟩, fun b o h1 hv q => q2 b o hv q⟩
                    · rw [decide_eq_false w0]
                      have ev0 : votesM e.row.votes who way = (e.row.votes.filter fun p => decide (p.1 ≠ who)) ++ [(who, way)] := if_neg w0
                      have hno : ∀ p ∈ e.row.votes.filter (fun p => decide (p.1 ≠ who)), p.1 ≠ who := fun p hp => by simpa using (List.mem_filter.mp hp).2
                      have vn : valV (votesK (e.row.votes.filter fun p => decide (p.1 ≠ who))) (Sum.inr who) = none := by
                        cases q : valV (votesK (e.row.votes.filter fun p => decide (p.1 ≠ who))) (Sum.inr who) with
                        | none => rfl
                        | some u =>
                          have m := valV_in q
                          unfold votesK at m
                          rw [List.map_map] at m
                          obtain ⟨p, hp, ep⟩ := List.mem_map.mp m
                          exact absurd (Sum.inr.inj ep) (hno p hp)
                      refine iteT (fld o2 T.c_Saying.c T.n_Saying_votes (fs_votes _ _) ⟨_, rfl, _, DPut.k (k := Sum.inr who) h2 (by unfold votesK; rw [List.length_map, sizeLine_eq]; omega), ⟨?_, ?_, ?_, ?_⟩, fun b o h1 hv q => ?_⟩)
                      · rw [upd_ne nva]
                        exact o2
                      · rw [upd_same, putK_new _ vn]
                        show some (HO.dK (votesK _ ++ [voteK (who, way)])) = some (HO.dK (votesK (votesM e.row.votes who way)))
                        rw [ev0]
                        simp [votesK]
                      · show ((votesM e.row.votes who way).map (·.1)).Nodup
                        rw [ev0, List.map_append]
                        refine nd_snoc ndf fun m => ?_
                        obtain ⟨p, hp, ep⟩ := List.mem_map.mp m
                        exact hno p hp ep
                      · show (votesM e.row.votes who way).length < 100000
                        rw [ev0, List.length_append, List.length_singleton]
                        omega
                      · rw [upd_ne hv]
                        exact q2 b o hv q
                  · rintro σ' H3 ⟨rfl, S3, k3⟩
                    walk_at "rd"
                    exact ⟨_, _, S3.o, fs_points _ _, _, _, _, _, rfl, S3, fun H4 s4 => fin H3 S3 k3 H4 s4⟩
            | _ => cases hb
          | _ => cases hc
      · unfold voteM
        rw [em]
        exact if_pos hb
    · unfold voteM
      rw [sayingME, h]
      rfl
/-! ### Wood.strike -/
def spStrike (K : PySem.W.Frag) : Sp := fun vs H Q E => ∃ (L : Lay) (x y : V) (d b : PyData), vs = [.ref L.p, x, y] ∧ WoodAt K H L ∧ Wf L.rows ∧ L.ents.length < 64 ∧ Dp K H x d ∧ Dp K H y b ∧ Short b ∧
  (∀ m M, strikeM L.wd d b = .ok (m, M) → ∀ H' L', WoodAt K H' L' → L'.wd = M → Step H L H' L' → Q (.int m) H') ∧ (∀ e, strikeM L.wd d b = .error e → ∀ H', Same H H' → Bad K E e H')
theorem ownM_int {M : Wd} {d b : PyData} {n : Int} {r : Row} (h : ownM M d b = .ok (n, r)) : d = .int n ∧ findR M.rows n = some r := by
  unfold ownM at h
  cases q : sayingM M d with
  | none => rw [q] at h; cases h
  | some p =>
    obtain ⟨m, r'⟩ := p
    rw [q] at h
    have h : (if nameOk b = false then .error .name else if isS b r'.who = true ∧ r'.struck = false then .ok (m, r') else .error .yours) = (.ok (n, r) : Except Er (Int × Row)) := h
    have e : (m, r') = (n, r) := by
      split at h
      · cases h
      · split at h
        · exact Except.ok.inj h
        · cases h
    cases e
    unfold sayingM at q
    cases d with
    | int k =>
      have q : (if 1 ≤ k ∧ k ≤ M.came then (findR M.rows k).map fun r => (k, r) else none) = some (n, r) := q
      split at q
      · cases f : findR M.rows k with
        | none => rw [f] at q; cases q
        | some z =>
          rw [f] at q
          cases q
          exact ⟨rfl, f⟩
      · cases q
    | _ => cases q
abbrev N_Wood_strike : List Str := ["self", "number", "by", "one", "many", "above"]
theorem sc_Wood_strike : FnScope N_Wood_strike ["self", "number", "by"] (defScope s_Wood_strike) := ⟨rfl, rfl, rfl, by decide +kernel, rfl, by decide +kernel, by decide +kernel⟩
theorem be_Wood_strike : BindEq "strike" "Wood.strike" s_Wood_strike ["self", "number", "by"] := fun _ _ _ _ _ _ us hl => match us, hl with | [_, _, _], _ => rfl
theorem D_Wood_strike (T : Txt K mg base) : Def P w K mg base 4 (He.ma K (He.ga K "Wood") "strike") ["self", "number", "by"] (spStrike K) := by
  refine mk_def T.f_Wood_strike sc_Wood_strike be_Wood_strike (fun vs H Q E h => ?_) (fun cdv A outer s H vs Q E hr h => ?_)
  · obtain ⟨L, x, y, d, b, rfl, _⟩ := h
    rfl
  · obtain ⟨L, x, y, d, b, rfl, W, F, hl, hx, hy, sb, k1, k0⟩ := h
    refine ⟨_, (pss_cons (ps_set (i := 3) sc_Wood_strike.nd rfl (Or.inl rfl) (pe_md (pv 0) T.c_Wood.c T.m_Wood_own (D_Wood_own T) (by exact hr.mono (by first | decide | omega)) passE (pa_cons (pv 1) (pa_cons (pv 2) pa_nil))))
      (pss_cons (ps_fld (pv 3) pe_bl (by rfl))
      (pss_cons (ps_set (i := 4) sc_Wood_strike.nd rfl (Or.inl rfl) pe_int)
      (pss_cons (ps_while ownE (PW.pt (pw_and (pt_cmpR op_ne (pv 1) pe_int (nomark _)) (pw_and (pt_val (pe_fld (pe_dg (pe_fld (pv 0) (by rfl)) (pv 1) (by exact hu_of hr)) (by rfl))) (pw_and1 (pt_eqd (pe_md (pv 0) T.c_Wood.c T.m_Wood_replies (D_Wood_replies T) (by exact hr.mono (by first | decide | omega)) passE (pa_cons (pv 1) pa_nil)) (pe_lst pa_nil) (by exact hr.units)))))) (pss_cons (ps_set (i := 5) sc_Wood_strike.nd rfl (Or.inl rfl) (pe_fld (pe_dp1 (pe_fld (pv 0) (by rfl)) (pv 1)) (by rfl)))
      (pss_cons (ps_set (i := 1) sc_Wood_strike.nd rfl (Or.inl rfl) (pv 5))
      (pss_one (ps_set (i := 4) sc_Wood_strike.nd rfl (Or.inl rfl) (pe_op op_add (pv 4) pe_int))))))
      (pss_one (ps_ret (pv 4))))))), ?_⟩
    walk_at "rd"
    refine ⟨_, _, W.top, fw_no _ _ _ (by decide) (by decide) (by decide), L, x, y, d, b, rfl, W, hx, hy, sb, fun r hr H1 s1 => k0 r ?_ H1 s1, fun n r hr e he er H1 s1 => ?_⟩
    · unfold strikeM
      rw [hr]
    · obtain ⟨ed, fr⟩ := ownM_int hr
      subst ed
      cases hx
      have W1 := W.same s1
      have hm := (findE_mem he).1
      have en := (findE_mem he).2
      have S := W1.say e hm
      have nva : e.v ≠ e.a := ne_of S.d S.o (by intro q; cases q)
      refine ⟨_, rfl, _, _, _, S.o, T.c_Saying.c, T.n_Saying_is_struck, by rw [fs_len]; decide, ?_⟩
      rw [fp_struck]
      have kp : ∀ b o, b ≠ e.a → b ≠ e.v → H1 b = some o → upd H1 e.a (.ins (cS K) e.x (sayFs { e.row with struck := true } e.v)) b = some o := fun b o h1 _ q => by rw [upd_ne h1]; exact q
      have W2 := W1.set hm (r := { e.row with struck := true }) ⟨upd_same, by rw [upd_ne nva]; exact S.d, S.nd, S.sz⟩ kp
      have st2 := (Step.same s1).trans (Step.set (r := { e.row with struck := true }) hm kp)
      generalize upd H1 e.a (.ins (cS K) e.x (sayFs { e.row with struck := true } e.v)) = H2 at W2 st2 ⊢
      have er2 : ({ L with ents := setE L.ents e.n { e.row with struck := true } } : Lay).rows = setR L.rows n { r with struck := true } := by
        rw [en, er]
        exact setE_rows _ _ _
      have ec2 : ({ L with ents := setE L.ents e.n { e.row with struck := true } } : Lay).came = L.came := rfl
      have ek2 : ({ L with ents := setE L.ents e.n { e.row with struck := true } } : Lay).clock = L.clock := rfl
      have ep2 : ({ L with ents := setE L.ents e.n { e.row with struck := true } } : Lay).p = L.p := rfl
      have hl2 : ({ L with ents := setE L.ents e.n { e.row with struck := true } } : Lay).ents.length < 64 := by
        show (setE L.ents e.n _).length < 64
        unfold setE
        rw [List.length_map]
        exact hl
      generalize ({ L with ents := setE L.ents e.n { e.row with struck := true } } : Lay) = L2 at W2 st2 er2 ec2 ek2 ep2 hl2
      have es : strikeM L.wd (.int n) b = .ok ((goneR L2.rows n).2, ⟨(goneR L2.rows n).1, L.came, L.clock⟩) := by
        unfold strikeM
        rw [hr, er2]
        rfl
      have F2 : Wf L2.rows := by rw [er2]; exact F.set fr rfl
      have hn2 : n = 0 ∨ ∃ r, findR L2.rows n = some r := .inr ⟨_, by rw [er2]; exact findR_set F.nk fr⟩
      refine ⟨fun m σ H' => ∃ (L' : Lay) (i c : Int) (ab : Option V), σ = [some (.ref L.p), some (.int i), some y, some (.ref e.a), some (.int c), ab] ∧ m = i.toNat ∧ WoodAt K H' L' ∧ Step H L H' L' ∧ Wf L'.rows ∧ L'.ents.length < 64 ∧ L'.came = L.came ∧ L'.clock = L.clock ∧ (i = 0 ∨ ∃ r, findR L'.rows i = some r) ∧ (goneR L2.rows n).1 = (goneR L'.rows i).1 ∧ (goneR L2.rows n).2 = (goneR L'.rows i).2 + c,
        ⟨_, L2, n, 0, none, rfl, rfl, W2, st2, F2, hl2, ec2, ek2, hn2, rfl, by omega⟩, ?_⟩
      rintro m σ H' ⟨L', i, c, ab, rfl, rfl, W', st', F', hl', ec', ek', hi', eg1, eg2⟩
      have pp : L'.p = L.p := st'.p
      have out : goneR L'.rows i = (L'.rows, 0) → Q (.int c) H' := fun g => by
        refine k1 c ⟨L'.rows, L.came, L.clock⟩ ?_ H' L' W' ?_ st'
        · rw [es, eg1, eg2, g]
          simp
        · unfold Lay.wd
          rw [ec', ek']
      walk_at "rd"
      refine ⟨rfl, ?_⟩
      by_cases i0 : i = 0
      · rw [decide_eq_true i0]
        refine iteF (out ?_)
        rw [i0, goneR, F'.find0]
      · rw [decide_eq_false i0]
        obtain ⟨ri, hri⟩ := hi'.resolve_left i0
        obtain ⟨e', he', eri⟩ : ∃ e', findE L'.ents i = some e' ∧ e'.row = ri := by
          rw [L'.find] at hri
          cases q : findE L'.ents i with
          | none => rw [q] at hri; cases hri
          | some e' => rw [q] at hri; exact ⟨e', rfl, Option.some.inj hri⟩
        have S' := W'.say e' (findE_mem he').1
        rw [← pp]
        refine iteT (W'.fsay T (W'.at he' ⟨_, rfl, S'.fstruck T ⟨_, rfl, ?_⟩⟩))
        cases cs : e'.row.struck with
        | false =>
          refine iteF (out ?_)
          rw [goneR, hri]
          show (if h : _ then _ else _) = _
          rw [dif_neg (by rw [← eri, cs]; simp)]
        | true =>
          refine iteT ⟨_, _, W'.top, fw_no _ _ _ (by decide) (by decide) (by decide), L', i, rfl, W', hl', fun q H3 hq s3 e3 => ⟨Nat.zero_le _, fun l hl0 => ?_⟩⟩
          have s4 := s3.trans (Same.new (o := .lst []) hl0)
          refine use_eqD (dp_ints ((Same.new hl0) _ _ e3)) (dp_ints (ns := []) upd_same) (shaped_ints _) (shaped_ints []) ⟨_, rfl, ?_⟩
          rw [eqv_ints]
          generalize upd H3 l (.lst []) = H4 at s4 ⊢
          have W4 := W'.same s4
          have S4 := W4.say e' (findE_mem he').1
          obtain ⟨up1, up2, up3, up4⟩ := F'.up hri
          by_cases er0 : sortI (repliesR L'.rows i) = []
          · have re : repliesR L'.rows i = [] := by
              have := sortI_perm (repliesR L'.rows i)
              rw [er0] at this
              exact this.nil_eq.symm
            rw [decide_eq_true er0]
            have g : goneR L'.rows i = ((goneR (dropR L'.rows i) ri.under).1, (goneR (dropR L'.rows i) ri.under).2 + 1) := by
              rw [goneR, hri]
              show (if h : _ then _ else _) = _
              rw [dif_pos ⟨up2, up3, up4, by rw [← eri]; exact cs, re⟩]
            refine iteT ⟨_, fun _ _ h => h, W4.fsay T ⟨_, rfl, .inl ⟨_, .inl W4.dic⟩, _, W4.dic, Sum.inl i, rfl, _, by rw [valE, he']; rfl, _, rfl, ?_⟩⟩
            refine fld (by rw [upd_ne (ne_of S4.o W4.dic (by intro q; cases q))]; exact S4.o) T.c_Saying.c T.n_Saying_under (fs_under _ _) ?_
            have st5 := (st'.trans (Step.same s4)).trans (Step.pop (L := L') i (.dK (dropK (L'.ents.map entK) (Sum.inl i))))
            refine ⟨ri.under.toNat, by omega, { L' with ents := L'.ents.filter fun e => decide (e.n ≠ i) }, ri.under, c + 1, some (.int ri.under), ?_, rfl, W4.pop i, st5, ?_, ?_, ec', ek', ?_, ?_, ?_⟩
            · rw [eri]
            · rw [pop_rows]
              exact F'.drop re
            · exact Nat.lt_of_le_of_lt (List.length_filter_le _ _) hl'
            · rw [pop_rows]
              rcases F'.has _ (findR_mem hri) with z | ⟨z, hz⟩
              · exact .inl z
              · right
                have hz : findR L'.rows ri.under = some z := hz
                rw [findR_drop, if_neg (by omega)]
                exact ⟨z, hz⟩
            · rw [eg1, g, pop_rows]
            · rw [eg2, g, pop_rows]
              show (goneR (dropR L'.rows i) ri.under).2 + 1 + c = _
              omega
          · rw [decide_eq_false er0]
            refine iteF ?_
            have g : goneR L'.rows i = (L'.rows, 0) := by
              rw [goneR, hri]
              show (if h : _ then _ else _) = _
              rw [dif_neg fun h => er0 (by rw [h.2.2.2.2]; exact sortI_self List.Pairwise.nil)]
            refine k1 c ⟨L'.rows, L.came, L.clock⟩ ?_ H4 L' W4 ?_ (st'.trans (Step.same s4))
            · rw [es, eg1, eg2, g]
              simp
            · unfold Lay.wd
              rw [ec', ek']
end
end Vw
namespace Vw
open PySem PySem.Spec PyProof.Rows L2
local macro_rules | `(tactic| walk_at "rd") => `(tactic| simp only [tSeq, tNext, tIfS, tAsg, tRet, tRetN, tDrop, tVar, tC, tOp, tUn, tTest, tB, tAnd, tOr, tNot, tAndV, tOrV, tNotV, tIf, tChain, tCB, tCons, tNil, tCall, tMeth, tMake, tFld, sFld, tTup, tLst, tTupS, tLstS, tDNewKS, tDNewTS, tTold, tCmp, t2I, tIsN, tNotN, tPar, gName, gNil, gCons, gTup, gSub, rI0, rU, rEq, rNe, tDGet, tDIn, tDNotIn, sDPut, tDNewK, tDGet1, tDGet2, tDPop1, tDPop2, tBM, tBM0, tM0, tM1, tSl, tPart, tNoPart, tBreak, tCont, tThru, L2.start, List.map_cons, List.map_nil, List.length_cons, List.length_nil, List.cons_append, List.nil_append, List.append_nil, List.replicate_succ, List.replicate_zero, Nat.reduceAdd, Nat.reduceSub, Nat.zero_add, List.getElem?_cons_zero, List.getElem?_cons_succ, List.set_cons_zero, List.set_cons_succ, wipe, cxOf_K, tYes, List.cons.injEq, and_self, Option.some.injEq, V.int.injEq, V.bl.injEq, V.ref.injEq, V.str.injEq, exists_eq_left', exists_eq_left, exists_and_left, and_assoc, true_and, and_true, if_true, if_false, ite_true, ite_false, Bool.not_true, Bool.not_false, Bool.false_eq_true, reduceIte])
theorem WoodAt.put {K : PySem.W.Frag} {H H' : Hp} {L : Lay} (W : WoodAt K H L) {n : Int} {a x v : Addr} {r : Row} (S : SayAt K H' a x v r) (ha : H a = none) (hv : H v = none) (hn : ∀ e ∈ L.ents, e.n ≠ n) (kp : ∀ b o, b ≠ L.d → H b = some o → H' b = some o)
    (hd : H' L.d = some (.dK (L.ents.map entK ++ [entK ⟨n, r, a, x, v⟩]))) (sz : L.ents.length + 1 < 100000) : WoodAt K H' { L with ents := L.ents ++ [⟨n, r, a, x, v⟩] } := by
  have npd : L.p ≠ L.d := ne_of W.top W.dic (by intro q; cases q)
  refine ⟨kp _ _ npd W.top, ?_, fun e he => ?_, ?_, ?_, ?_, fun e he => ?_, fun e he => ?_, ?_⟩
  · show H' L.d = some (.dK ((L.ents ++ [_]).map entK))
    rw [List.map_append]
    exact hd
  · rcases List.mem_append.mp he with he | he
    · have S0 := W.say e he
      exact ⟨kp _ _ (ne_of S0.o W.dic (by intro q; cases q)) S0.o, kp _ _ (W.dv e he) S0.d, S0.nd, S0.sz⟩
    · cases List.mem_singleton.mp he
      exact S
  · show ((L.ents ++ [(⟨n, r, a, x, v⟩ : Ent)]).map (·.n)).Nodup
    rw [List.map_append]
    refine nd_snoc W.nk fun m => ?_
    obtain ⟨e, he, q⟩ := List.mem_map.mp m
    exact hn e he q
  · show ((L.ents ++ [(⟨n, r, a, x, v⟩ : Ent)]).map (·.a)).Nodup
    rw [List.map_append]
    refine nd_snoc W.nda fun m => ?_
    obtain ⟨e, he, q⟩ := List.mem_map.mp m
    exact ne_of_none (W.say e he).o ha q
  · show ((L.ents ++ [(⟨n, r, a, x, v⟩ : Ent)]).map (·.v)).Nodup
    rw [List.map_append]
    refine nd_snoc W.ndv fun m => ?_
    obtain ⟨e, he, q⟩ := List.mem_map.mp m
    exact ne_of_none (W.say e he).d hv q
  · rcases List.mem_append.mp he with he | he
    · exact W.dv e he
    · cases List.mem_singleton.mp he
      exact (ne_of_none W.dic hv).symm
  · rcases List.mem_append.mp he with he | he
    · exact W.pa e he
    · cases List.mem_singleton.mp he
      exact (ne_of_none W.top ha).symm
  · show (L.ents ++ [_]).length < 100000
    rw [List.length_append]
    exact sz
theorem Step.put {H H' : Hp} {L : Lay} {n : Int} {a x v : Addr} {r : Row} (ha : H a = none) (hv : H v = none) (kp : ∀ b o, b ≠ L.d → H b = some o → H' b = some o) : Step H L H' { L with ents := L.ents ++ [⟨n, r, a, x, v⟩] } := by
  refine ⟨rfl, fun b o hb e => kp b o (fun z => hb (by rw [z]; exact List.mem_cons_of_mem _ List.mem_cons_self)) e, fun b hb => ?_⟩
  have hb : b ∈ L.p :: L.d :: ((L.ents ++ [(⟨n, r, a, x, v⟩ : Ent)]).map (·.a) ++ (L.ents ++ [(⟨n, r, a, x, v⟩ : Ent)]).map (·.v)) := hb
  simp only [List.mem_cons, List.mem_append, List.map_append, List.map_cons, List.map_nil, List.not_mem_nil, or_false] at hb
  rcases hb with rfl | rfl | (h | rfl) | (h | rfl)
  · exact .inl List.mem_cons_self
  · exact .inl (List.mem_cons_of_mem _ List.mem_cons_self)
  · exact .inl (List.mem_cons_of_mem _ (List.mem_cons_of_mem _ (List.mem_append_left _ h)))
  · exact .inr ha
  · exact .inl (List.mem_cons_of_mem _ (List.mem_cons_of_mem _ (List.mem_append_right _ h)))
  · exact .inr hv
theorem Step.top {H : Hp} {L : Lay} {c k : Int} {o : HO} : Step H L (upd H L.p o) { L with came := c, clock := k } :=
  ⟨rfl, fun b u hb e => by rw [upd_ne (fun z => hb (by rw [z]; exact List.mem_cons_self))]; exact e, fun b hb => .inl hb⟩
section
variable {P : Program} {w : World} {K : PySem.W.Frag} {mg : Str → Option Value} {base : Heap}
def spSay (K : PySem.W.Frag) : Sp := fun vs H Q E => ∃ (L : Lay) (x y z : V) (b u t : PyData), vs = [.ref L.p, x, y, z] ∧ WoodAt K H L ∧ Wf L.rows ∧ (∀ p ∈ L.rows, p.1 ≤ L.came) ∧ Dp K H x b ∧ Dp K H y u ∧ Dp K H z t ∧ Short b ∧ SeqAt.shaped u = true ∧ Short t ∧
  (∀ n M, sayM L.wd b u t = .ok (n, M) → ∀ H' L', WoodAt K H' L' → L'.wd = M → Step H L H' L' → Q (.int n) H') ∧ (∀ e, sayM L.wd b u t = .error e → ∀ H', Same H H' → Bad K E e H')
abbrev N_Wood_say : List Str := ["self", "by", "under", "text"]
theorem sc_Wood_say : FnScope N_Wood_say ["self", "by", "under", "text"] (defScope s_Wood_say) := ⟨rfl, rfl, rfl, by decide +kernel, rfl, by decide +kernel, by decide +kernel⟩
theorem be_Wood_say : BindEq "say" "Wood.say" s_Wood_say ["self", "by", "under", "text"] := fun _ _ _ _ _ _ us hl => match us, hl with | [_, _, _, _], _ => rfl
theorem D_Wood_say (T : Txt K mg base) : Def P w K mg base 3 (He.ma K (He.ga K "Wood") "say") ["self", "by", "under", "text"] (spSay K) := by
  refine mk_def T.f_Wood_say sc_Wood_say be_Wood_say (fun vs H Q E h => ?_) (fun cdv A outer s H vs Q E hr h => ?_)
  · obtain ⟨L, x, y, z, b, u, t, rfl, _⟩ := h
    rfl
  · obtain ⟨L, x, y, z, b, u, t, rfl, W, F, hle, hx, hy, hz, sb, su, st, k1, k0⟩ := h
    refine ⟨_, (pss_cons (ps_expr (pe_cd (D_need_name T) (by exact hr.mono (by first | decide | omega)) T.g_need_name passE (pa_cons (pv 1) pa_nil)))
      (C8.pss_cut (ps_if (PW.pt (pw_or (pt_ned (pv 2) pe_int (by exact hr.units)) (pw_or1 (pt_val (pe_callB call_isi (by rfl) T.b_isinstance (by decide +kernel) (pa_cons (pv 2) (pa_cons (pe_bltn (v := .ty "bool") (by rfl) T.b_bool (by decide +kernel) rfl) pa_nil))))))) (pss_one (ps_expr (pe_md (pv 0) T.c_Wood.c T.m_Wood_saying (D_Wood_saying T) (by exact hr.mono (by first | decide | omega)) passE (pa_cons (pv 2) pa_nil)))) pss_nil)
      (pss_cons (ps_expr (pe_cd (D_need_text T) (by exact hr.mono (by first | decide | omega)) T.g_need_text passE (pa_cons (pv 3) pa_nil)))
      (C8.pss_cut (ps_if (PW.pt (pw_or (pt_cmpR op_ge (pe_callB call_lenD (by rfl) T.b_len (by decide +kernel) (pa_cons (pe_fld (pv 0) (by rfl)) pa_nil)) (pe_gk T.k_MOST_SAYINGS) (nomark _)) (pw_or1 (PW.pt (pw_and (pt_ned (pv 2) pe_int (by exact hr.units)) (pw_and1 (pt_cmpR op_ge (pe_op op_add (pe_md (pv 0) T.c_Wood.c T.m_Wood_deep (D_Wood_deep T) (by exact hr.mono (by first | decide | omega)) passE (pa_cons (pv 2) pa_nil)) pe_int) (pe_gk T.k_MOST_DEEP) (nomark _)))))))) (pss_one (ps_rs T.x_Full)) pss_nil)
      (pss_cons (ps_fld (pv 0) (pe_op op_add (pe_fld (pv 0) (by rfl)) pe_int) (by rfl))
      (pss_cons (ps_dp (pe_fld (pv 0) (by rfl)) (pe_fld (pv 0) (by rfl)) (pe_mk T.c_Saying.m (D_Saying___init__ T) (by exact hr.mono (by first | decide | omega)) T.c_Saying.g passE (pa_cons (pv 1) (pa_cons (pv 2) (pa_cons (pv 3) (pa_cons (pe_fld (pv 0) (by rfl)) pa_nil))))) (by exact hu_of hr))
      (pss_one (ps_ret (pe_fld (pv 0) (by rfl)))))))))), ?_⟩
    walk_at "rd"
    refine ⟨x, b, rfl, hx, sb, fun hb H1 s1 => ?_, fun hb H1 s1 => k0 .name ?_ H1 s1⟩
    · have hb0 : ¬ nameOk b = false := by rw [hb]; decide
      have W1 := W.same s1
      have hy1 := dp_same s1 hy
      have k0u : underOk L.wd u = false → Bad K E .no H1 := fun hu => k0 .no (by unfold sayM; rw [if_neg hb0, if_pos hu]) H1 s1
      refine ⟨fun σ' H' => H' = H1 ∧ σ' = [some (.ref L.p), some x, some y, some z] ∧ underOk L.wd u = true, ?_, ?_⟩
      · walk_at "rd"
        have say : ∀ {Q' : VK}, (underOk L.wd u = true → Q' .non H1) → isZero u = false → (∃ dx fs, H1 L.p = some (.ins (He.ga K "Wood") dx fs) ∧ fs.lookup (Str.ofString "saying") = none ∧ spSaying K [.ref L.p, y] H1 (fun _ H1 => Q' .non H1) E) := fun {Q'} q z => by
          refine ⟨_, _, W1.top, fw_no _ _ _ (by decide) (by decide) (by decide), L, y, u, rfl, W1, hy1, fun e he => q ?_, fun h => k0u ?_⟩
          · exact (underOk_iff L z).mpr ⟨e, he⟩
          · cases c : underOk L.wd u with
            | false => rfl
            | true =>
              obtain ⟨e, he⟩ := (underOk_iff L z).mp c
              rw [he] at h
              cases h
        refine use_neD hy1 (.int 0) su rfl ⟨_, rfl, ?_⟩
        cases e0 : PyData.eqv u (.int 0) with
        | false =>
          refine iteT (say (Q' := fun _ H' => H' = H1 ∧ underOk L.wd u = true) (fun h => ⟨rfl, h⟩) ?_)
          cases u with
          | int n =>
            have : ¬ n = 0 := by rw [eqv_int] at e0; exact of_decide_eq_false e0
            simp [isZero, this]
          | _ => rfl
        | true =>
          refine iteF (use_isi hy1 (kit_bool _) ⟨_, rfl, ?_⟩)
          cases hy1 with
          | bl b => exact iteT (say (Q' := fun _ H' => H' = H1 ∧ underOk L.wd (.bool b) = true) (fun h => ⟨rfl, h⟩) rfl)
          | int n =>
            have : n = 0 := by rw [eqv_int] at e0; exact of_decide_eq_true e0
            subst this
            exact iteF ⟨rfl, rfl⟩
          | _ => cases e0
      · rintro σ' H' ⟨rfl, rfl, hu⟩
        have hu0 : ¬ underOk L.wd u = false := by rw [hu]; decide
        obtain ⟨n, rfl⟩ : ∃ n, u = .int n := by
          cases u with
          | int n => exact ⟨n, rfl⟩
          | _ => cases hu
        cases hy
        obtain ⟨who, rfl⟩ : ∃ who, b = .str who := by
          cases b with
          | str n => exact ⟨n, rfl⟩
          | _ => cases hb
        cases hx
        walk_at "rd"
        refine ⟨z, t, rfl, dp_same s1 hz, st, fun ht H2 s2 => ?_, fun ht H2 s2 => k0 .text ?_ H2 (s1.trans s2)⟩
        · have ht0 : ¬ textOk t = false := by rw [ht]; decide
          obtain ⟨text, rfl⟩ : ∃ text, t = .str text := by
            cases t with
            | str n => exact ⟨n, rfl⟩
            | _ => cases ht
          cases hz
          have W2 := W1.same s2
          have s12 := s1.trans s2
          have ems : sayM L.wd (.str who) (.int n) (.str text) = if 60 ≤ L.rows.length ∨ (n ≠ 0 ∧ 8 ≤ deepI L.rows n + 1) then .error .full else .ok (L.came + 1, ⟨L.rows ++ [(L.came + 1, ⟨who, n, text, L.clock, [], false⟩)], L.came + 1, L.clock⟩) := by
            unfold sayM
            rw [if_neg hb0, if_neg hu0, if_neg ht0]
            rfl
          have lr : L.rows.length = L.ents.length := by unfold Lay.rows; rw [List.length_map]
          refine ⟨fun σ' H' => H' = H2 ∧ σ' = [some (.ref L.p), some (.str who), some (.int n), some (.str text)] ∧ ¬ (60 ≤ L.rows.length ∨ (n ≠ 0 ∧ 8 ≤ deepI L.rows n + 1)), ?_, ?_⟩
          · walk_at "rd"
            have bad : (60 ≤ L.rows.length ∨ (n ≠ 0 ∧ 8 ≤ deepI L.rows n + 1)) → Bad K E .full H2 := fun c => k0 .full (by rw [ems, if_pos c]) H2 s12
            refine W2.fsay T ⟨_, rfl, _, W2.dic, ?_⟩
            rw [List.length_map]
            by_cases c1 : (60 : Int) ≤ L.ents.length
            · rw [decide_eq_true c1]
              exact iteT (bad (.inl (by omega)))
            · rw [decide_eq_false c1]
              refine iteF (use_neD (.int n) (.int 0) rfl rfl ⟨_, rfl, ?_⟩)
              rw [eqv_int]
              by_cases n0 : n = 0
              · rw [decide_eq_true n0]
                exact iteF ⟨rfl, fun h => h.elim (fun h => by omega) (fun h => h.1 n0)⟩
              · rw [decide_eq_false n0]
                have hh : Here L n := by
                  right
                  simp only [underOk, Bool.or_eq_true, Bool.and_eq_true, decide_eq_true_eq, n0, false_or] at hu
                  have := hu.2
                  have this : (findR L.rows n).isSome = true := this
                  rw [L.find] at this
                  cases q : findE L.ents n with
                  | none => rw [q] at this; cases this
                  | some e => exact ⟨e, rfl⟩
                refine iteT ⟨_, _, W2.top, fw_no _ _ _ (by decide) (by decide) (by decide), L, n, rfl, W2, F, hh, _, rfl, ?_⟩
                by_cases c2 : (8 : Int) ≤ (deepI L.rows n : Nat) + 1
                · rw [decide_eq_true c2]
                  exact iteT (bad (.inr ⟨n0, by omega⟩))
                · rw [decide_eq_false c2]
                  exact iteF ⟨rfl, fun h => h.elim (fun h => by omega) (fun h => by omega)⟩
          · rintro σ' H3 ⟨rfl, rfl, nf⟩
            rw [if_neg nf] at ems
            walk_at "rd"
            refine W2.fcame T ⟨_, rfl, _, _, _, W2.top, T.c_Wood.c, T.n_Wood_came, by rw [fw_len]; decide, ?_⟩
            rw [fpw_came]
            have W3 := W2.setTop (L.came + 1) L.clock
            have st3 := (Step.same s12).trans (Step.top (H := H3) (L := L) (c := L.came + 1) (k := L.clock) (o := .ins (cW K) L.dx (woodFs L.d (L.came + 1) L.clock)))
            generalize upd H3 L.p (.ins (cW K) L.dx (woodFs L.d (L.came + 1) L.clock)) = H4 at W3 st3 ⊢
            have ents3 : ({ L with came := L.came + 1, clock := L.clock } : Lay).ents = L.ents := rfl
            refine fld W3.top T.c_Wood.c T.n_Wood_clock (fw_clock _ _ _) fun a dx ha hdx nax => ?_
            refine ⟨a, dx, who, text, n, L.clock, rfl, upd_same, fun v H5 hv S5 k5 => ⟨rfl, ?_⟩⟩
            have sa : Same H4 (upd (upd H4 dx (.own a)) a (.ins (cS K) dx [])) := (Same.new hdx).trans (Same.new (by rw [upd_ne nax.symm]; exact ha))
            have k45 : ∀ b o, b ≠ L.d → H4 b = some o → H5 b = some o := fun b o _ e => k5 b o (ne_of_none e ha) (sa b o e)
            have s45 : Same H4 H5 := fun b o e => k5 b o (ne_of_none e ha) (sa b o e)
            have hv4 : H4 v = none := sa.free hv
            have W5 := W3.same s45
            refine fld W5.top T.c_Wood.c T.n_Wood_sayings (fw_sayings _ _ _) ?_
            refine fld W5.top T.c_Wood.c T.n_Wood_came (fw_came _ _ _) ?_
            have hnew : ∀ e ∈ L.ents, e.n ≠ L.came + 1 := fun e he z => by
              have := hle (e.n, e.row) (List.mem_map.mpr ⟨e, he, rfl⟩)
              have this : e.n ≤ L.came := this
              omega
            have vn : valV (L.ents.map entK) (Sum.inl (L.came + 1)) = none := by
              rw [valE]
              have : findE L.ents (L.came + 1) = none := by
                unfold findE
                rw [List.find?_eq_none]
                intro e he
                simpa using hnew e he
              rw [this]
              rfl
            have sz := W.sz
            refine ⟨_, rfl, _, DPut.k (k := Sum.inl (L.came + 1)) W5.dic (by rw [List.length_map, sizeLine_eq]; show L.ents.length < _; omega), ?_⟩
            have ed : putK (L.ents.map entK) (Sum.inl (L.came + 1)) (.ref a) = L.ents.map entK ++ [entK ⟨L.came + 1, ⟨who, n, text, L.clock, [], false⟩, a, dx, v⟩] := putK_new _ vn
            have kp6 : ∀ b o, b ≠ L.d → H4 b = some o → upd H5 L.d (.dK (putK (L.ents.map entK) (Sum.inl (L.came + 1)) (.ref a))) b = some o := fun b o hb e => by
              rw [upd_ne hb]
              exact s45 b o e
            have S6 : SayAt K (upd H5 L.d (.dK (putK (L.ents.map entK) (Sum.inl (L.came + 1)) (.ref a)))) a dx v ⟨who, n, text, L.clock, [], false⟩ :=
              ⟨by rw [upd_ne (ne_of_none W3.dic ha).symm]; exact S5.o, by rw [upd_ne (ne_of_none W3.dic hv4).symm]; exact S5.d, S5.nd, S5.sz⟩
            have W6 := W3.put S6 ha hv4 hnew kp6 (by show upd H5 L.d _ L.d = _; rw [upd_same, ed]) (by show L.ents.length + 1 < 100000; simp only [not_or] at nf; omega)
            refine fld W6.top T.c_Wood.c T.n_Wood_came (fw_came _ _ _) ?_
            refine k1 _ _ ems _ _ W6 ?_ (st3.trans (Step.put ha hv4 kp6))
            unfold Lay.wd Lay.rows
            simp
        · unfold sayM
          rw [if_neg hb0, if_neg hu0, if_pos ht]
    · unfold sayM
      rw [if_pos hb]
end
end Vw
namespace Vw
open PySem PySem.Spec PyProof.Rows L2
local macro_rules | `(tactic| walk_at "rd") => `(tactic| simp only [tSeq, tNext, tIfS, tAsg, tRet, tRetN, tDrop, tVar, tC, tOp, tUn, tTest, tB, tAnd, tOr, tNot, tAndV, tOrV, tNotV, tIf, tChain, tCB, tCons, tNil, tCall, tMeth, tMake, tFld, sFld, tTup, tLst, tTupS, tLstS, tDNewKS, tDNewTS, tTold, tCmp, t2I, tIsN, tNotN, tPar, gName, gNil, gCons, gTup, gSub, rI0, rU, rEq, rNe, tDGet, tDIn, tDNotIn, sDPut, tDNewK, tDGet1, tDGet2, tDPop1, tDPop2, tBM, tBM0, tM0, tM1, tSl, tPart, tNoPart, tBreak, tCont, tThru, L2.start, List.map_cons, List.map_nil, List.length_cons, List.length_nil, List.cons_append, List.nil_append, List.append_nil, List.replicate_succ, List.replicate_zero, Nat.reduceAdd, Nat.reduceSub, Nat.zero_add, List.getElem?_cons_zero, List.getElem?_cons_succ, List.set_cons_zero, List.set_cons_succ, wipe, cxOf_K, tYes, List.cons.injEq, and_self, Option.some.injEq, V.int.injEq, V.bl.injEq, V.ref.injEq, V.str.injEq, exists_eq_left', exists_eq_left, exists_and_left, and_assoc, true_and, and_true, if_true, if_false, ite_true, ite_false, Bool.not_true, Bool.not_false, Bool.false_eq_true, reduceIte])
/-! ### what the laws share: cells, draws -/
section
variable {P : Program} {w : World} {K : PySem.W.Frag} {mg : Str → Option Value} {base : Heap}
abbrev N__law_cell : List Str := ["script", "k"]
theorem sc__law_cell : FnScope N__law_cell ["script", "k"] (defScope s__law_cell) := ⟨rfl, rfl, rfl, by decide +kernel, rfl, by decide +kernel, by decide +kernel⟩
theorem be__law_cell : BindEq "_law_cell" "_law_cell" s__law_cell ["script", "k"] := fun _ _ _ _ _ _ us hl => match us, hl with | [_, _], _ => rfl
theorem D__law_cell (T : Txt K mg base) : Def P w K mg base 1 (He.ga K "_law_cell") ["script", "k"] (spCell K) := by
  refine mk_def T.f__law_cell sc__law_cell be__law_cell (fun vs H Q E h => ?_) (fun cdv A outer s H vs Q E hr h => ?_)
  · obtain ⟨p, sc, k, rfl, _⟩ := h
    rfl
  · obtain ⟨p, sc, k, rfl, hp, hl, h0, h1, q⟩ := h
    refine ⟨_, (pss_cons (ps_if (pt_eqd (pv 0) (pe_lstS pa_nil) (by exact hr.units)) (pss_one (ps_ret (pe_op op_mulX (pv 1) pe_int))) pss_nil)
      (pss_one (ps_ret (pe_op op_add (pe_ix ix_list (pv 0) (pe_op op_mod (pv 1) (pe_callB call_len_seq (by rfl) T.b_len (by decide +kernel) (pa_cons (pv 0) pa_nil))) (fun _ _ => rfl)) (pe_op op_mulX (pe_op op_fdivW (pv 1) (pe_callB call_len_seq (by rfl) T.b_len (by decide +kernel) (pa_cons (pv 0) pa_nil))) pe_int))))), ?_⟩
    walk_at "rd"
    refine ⟨Nat.zero_le _, fun l H1 hl0 s1 e0 => ?_⟩
    have e1 : SqL K H1 p (sc.map V.int) := s1.seq hp
    refine use_eqD (.lst e1 (dps_ints sc)) (dp_ints (ns := []) e0) (shaped_ints _) (shaped_ints []) ⟨_, rfl, ?_⟩
    rw [eqv_ints]
    have kb : k.natAbs < 2 ^ 10 := by omega
    by_cases hs : sc = []
    · rw [decide_eq_true hs]
      refine iteT (useI (mulx (b := 13) kb (by decide) (by omega)) ?_)
      have e : cellM sc k = k * 7919 := by rw [cellM, if_pos hs]
      rw [← e]
      exact q _ s1
    · rw [decide_eq_false hs]
      have ln : 0 < sc.length := List.length_pos_iff.mpr hs
      have lm : (sc.map V.int).length = sc.length := List.length_map _
      refine iteF ⟨_, .inl e1, useI (by rw [lm]; omega) ⟨p, _, _, V.int ((sc[(k % sc.length).toNat]?).getD 0), rfl, rfl, e1, ?_, ⟨_, .inl e1, useI ?_ (useI ?_ ⟨_, rfl, _, rfl, ?_⟩)⟩⟩⟩
      · have m0 : 0 ≤ k % (sc.length : Int) := Int.emod_nonneg _ (by omega)
        have m1 : k % (sc.length : Int) < sc.length := Int.emod_lt_of_pos _ (by omega)
        have hj : (k % sc.length).toNat < sc.length := by omega
        rw [lm]
        rw [atI_nn m0 (by rw [lm]; exact m1), List.getElem?_map, List.getElem?_eq_getElem hj]
        rfl
      · rw [lm]
        exact wide_div (b := 10) (by omega) (by omega) (by decide) (by decide)
      · rw [lm]
        refine mulx (a := 11) (b := 20) ?_ (by decide) (by omega)
        have d0 : 0 ≤ k / (sc.length : Int) := Int.ediv_nonneg h0 (by omega)
        have d1 : k / (sc.length : Int) ≤ k := Int.ediv_le_self _ h0
        omega
      · rw [lm]
        have e : cellM sc k = (sc[(k % sc.length).toNat]?).getD 0 + k / sc.length * 104729 := by rw [cellM, if_neg hs]
        rw [← e]
        exact q _ s1
abbrev N__law_drawn : List Str := ["cell", "k", "more"]
theorem sc__law_drawn : FnScope N__law_drawn ["cell", "k"] (defScope s__law_drawn) := ⟨rfl, rfl, rfl, by decide +kernel, rfl, by decide +kernel, by decide +kernel⟩
theorem be__law_drawn : BindEq "_law_drawn" "_law_drawn" s__law_drawn ["cell", "k"] := fun _ _ _ _ _ _ us hl => match us, hl with | [_, _], _ => rfl
theorem D__law_drawn (T : Txt K mg base) : Def P w K mg base 1 (He.ga K "_law_drawn") ["cell", "k"] spDraw := by
  refine mk_def T.f__law_drawn sc__law_drawn be__law_drawn (fun vs H Q E h => ?_) (fun cdv A outer s H vs Q E hr h => ?_)
  · obtain ⟨c, k, rfl, _⟩ := h
    rfl
  · obtain ⟨c, k, rfl, hc, hk, q⟩ := h
    refine ⟨_, (pss_cons (ps_set (i := 2) sc__law_drawn.nd rfl (Or.inl rfl) (pe_op op_mod (pe_op op_add (pe_op op_mulX (pv 0) pe_int) (pe_op op_mulX (pe_op op_add (pv 1) pe_int) pe_int)) pe_int))
      (pss_cons (ps_set (i := 2) sc__law_drawn.nd rfl (Or.inl rfl) (pe_op op_mod (pe_op op_mulX (pv 2) (pv 2)) pe_int))
      (pss_cons (ps_set (i := 2) sc__law_drawn.nd rfl (Or.inl rfl) (pe_op op_mulX (pe_op op_mulX (pe_op op_add (pe_op op_mod (pv 2) pe_int) pe_int) (pe_op op_add (pe_op op_fdivW (pv 2) pe_int) pe_int)) (pv 2)))
      (pss_one (ps_ret (pe_op op_mod (pv 2) pe_int)))))), ?_⟩
    walk_at "rd"
    have k1 : (k + 1).natAbs < 2 ^ 201 := by
      have : (2 : Nat) ^ 201 = 2 ^ 200 + 2 ^ 200 := by decide
      have : 1 ≤ (2 : Nat) ^ 200 := by decide
      omega
    refine useI (mulx (b := 64) hc (by decide) (by unfold bigB; omega)) (useI (mulx (b := 64) k1 (by decide) (by omega)) ⟨_, rfl, _, rfl, useI (by decide) ?_⟩)
    generalize ha : (c * 6364136223846793005 + (k + 1) * 1442695040888963407) % 340282366920938463463374607431768211507 = a
    have a0 : 0 ≤ a := by
      rw [← ha]
      exact Int.emod_nonneg _ (by decide)
    have a1 : a < 2 ^ 129 := by
      have := Int.emod_lt_of_pos (c * 6364136223846793005 + (k + 1) * 1442695040888963407) (b := 340282366920938463463374607431768211507) (by decide)
      rw [ha] at this
      exact Int.lt_trans this (by decide)
    refine useI (mulx (abs_lt a0 a1) (abs_lt a0 a1) (by omega)) (useI (by decide) ?_)
    generalize hb : a * a % 340282366920938463463374607431768211297 = b
    have b0 : 0 ≤ b := by
      rw [← hb]
      exact Int.emod_nonneg _ (by decide)
    have b1 : b < 2 ^ 129 := by
      have := Int.emod_lt_of_pos (a * a) (b := 340282366920938463463374607431768211297) (by decide)
      rw [hb] at this
      exact Int.lt_trans this (by decide)
    refine useI (by decide) ⟨_, rfl, useI (wide_div (b := 100) (by decide) (by decide) (by decide) (by decide)) ⟨_, rfl, ?_⟩⟩
    have c1 : (b % 18446744073709551557 + 1).natAbs < 2 ^ 65 := by omega
    have c2 : (b / 18446744073709551557 + 1).natAbs < 2 ^ 130 := by omega
    refine useI (mulx c1 c2 (by omega)) (useI (mulx (wide_lt c1 c2) (abs_lt b0 b1) (by omega)) (useI (by decide) ?_))
    have e : drawM c k = (b % 18446744073709551557 + 1) * (b / 18446744073709551557 + 1) * b % 340282366920938463463374607431768211507 := by
      unfold drawM
      dsimp only
      rw [ha, hb]
    rw [← e]
    exact q
end
end Vw
namespace Vw
open PySem PySem.Spec PyProof.Rows L2
local macro_rules | `(tactic| walk_at "rd") => `(tactic| simp only [tSeq, tNext, tIfS, tAsg, tRet, tRetN, tDrop, tVar, tC, tOp, tUn, tTest, tB, tAnd, tOr, tNot, tAndV, tOrV, tNotV, tIf, tChain, tCB, tCons, tNil, tCall, tMeth, tMake, tFld, sFld, tTup, tLst, tTupS, tLstS, tDNewKS, tDNewTS, tTold, tCmp, t2I, tIsN, tNotN, tPar, gName, gNil, gCons, gTup, gSub, rI0, rU, rEq, rNe, tDGet, tDIn, tDNotIn, sDPut, tDNewK, tDGet1, tDGet2, tDPop1, tDPop2, tBM, tBM0, tM0, tM1, tSl, tPart, tNoPart, tBreak, tCont, tThru, L2.start, List.map_cons, List.map_nil, List.length_cons, List.length_nil, List.cons_append, List.nil_append, List.append_nil, List.replicate_succ, List.replicate_zero, Nat.reduceAdd, Nat.reduceSub, Nat.zero_add, List.getElem?_cons_zero, List.getElem?_cons_succ, List.set_cons_zero, List.set_cons_succ, wipe, cxOf_K, tYes, List.cons.injEq, and_self, Option.some.injEq, V.int.injEq, V.bl.injEq, V.ref.injEq, V.str.injEq, exists_eq_left', exists_eq_left, exists_and_left, and_assoc, true_and, and_true, if_true, if_false, ite_true, ite_false, Bool.not_true, Bool.not_false, Bool.false_eq_true, reduceIte])
abbrev ws : List Str := ["BadDeed", "BadName", "BadNumber", "BadText", "Full", "NoSaying", "NotKin", "NotYours", "Nothing"]
theorem ws_sum : ∀ c ∈ errs, ((ws.map fun x => decide (c = x)).map n01).sum = 1 := by decide +kernel
theorem ws_at : ∀ c ∈ errs, ws[ws.idxOf c]? = some c ∧ (ws.map fun x => decide (c = x))[ws.idxOf c]? = some true ∧ ∀ m < ws.idxOf c, (ws.map fun x => decide (c = x))[m]? = some false := by decide +kernel
section
variable {P : Program} {w : World} {K : PySem.W.Frag} {mg : Str → Option Value} {base : Heap}
abbrev N__law_word : List Str := ["e", "flags", "some", "flag"]
theorem sc__law_word : FnScope N__law_word ["e"] (defScope s__law_word) := ⟨rfl, rfl, rfl, by decide +kernel, rfl, by decide +kernel, by decide +kernel⟩
theorem be__law_word : BindEq "_law_word" "_law_word" s__law_word ["e"] := fun _ _ _ _ _ _ us hl => match us, hl with | [_], _ => rfl
theorem H__law_word (T : Txt K mg base) : HotFn P w K mg base 2 (He.ga K "_law_word") (spWord K errs) := by
  intro A outer s H Q p hr hot pin e0 h
  obtain ⟨c, hc0, h1, h2, hf, q⟩ := h
  obtain ⟨fd, F⟩ := T.f__law_word
  have C0 := (T.wd c hc0).e
  refine hot_run (N := N__law_word) (k := 1) F sc__law_word be__law_word hr pin e0 (.cons (a := V.ref p.1) rfl .nil) rfl (fun cdv hr => ?_)
  have hp : p ∈ (L2H.cxH (L2N.CX P w) P w K mg base N__law_word "_law_word" (defScope s__law_word) (He.ga K "_law_word") cdv A outer s H E0 p).pn := List.mem_cons_self
  have hc : L2H.HotC (L2H.cxH (L2N.CX P w) P w K mg base N__law_word "_law_word" (defScope s__law_word) (He.ga K "_law_word") cdv A outer s H E0 p) := ⟨p, hot, hp⟩
  refine ⟨_, (pss_cons (ps_set (i := 1) sc__law_word.nd rfl (Or.inl rfl) (pe_lstS (pa_cons (pe_callB (cr_isP C0 hp h1 h2 hf) (by rfl) T.b_isinstance (by decide +kernel) (pa_cons (pv 0) (pa_cons (pe_glob (v := .ref _) rfl T.x_BadDeed.g rfl) pa_nil))) (pa_cons (pe_callB (cr_isP C0 hp h1 h2 hf) (by rfl) T.b_isinstance (by decide +kernel) (pa_cons (pv 0) (pa_cons (pe_glob (v := .ref _) rfl T.x_BadName.g rfl) pa_nil))) (pa_cons (pe_callB (cr_isP C0 hp h1 h2 hf) (by rfl) T.b_isinstance (by decide +kernel) (pa_cons (pv 0) (pa_cons (pe_glob (v := .ref _) rfl T.x_BadNumber.g rfl) pa_nil))) (pa_cons (pe_callB (cr_isP C0 hp h1 h2 hf) (by rfl) T.b_isinstance (by decide +kernel) (pa_cons (pv 0) (pa_cons (pe_glob (v := .ref _) rfl T.x_BadText.g rfl) pa_nil))) pa_nil))))))
      (pss_cons (ps_set (i := 1) sc__law_word.nd rfl (Or.inl rfl) (pe_op op_catN (pv 1) (pe_lstS (pa_cons (pe_callB (cr_isP C0 hp h1 h2 hf) (by rfl) T.b_isinstance (by decide +kernel) (pa_cons (pv 0) (pa_cons (pe_glob (v := .ref _) rfl T.x_Full.g rfl) pa_nil))) (pa_cons (pe_callB (cr_isP C0 hp h1 h2 hf) (by rfl) T.b_isinstance (by decide +kernel) (pa_cons (pv 0) (pa_cons (pe_glob (v := .ref _) rfl T.x_NoSaying.g rfl) pa_nil))) (pa_cons (pe_callB (cr_isP C0 hp h1 h2 hf) (by rfl) T.b_isinstance (by decide +kernel) (pa_cons (pv 0) (pa_cons (pe_glob (v := .ref _) rfl T.x_NotKin.g rfl) pa_nil))) (pa_cons (pe_callB (cr_isP C0 hp h1 h2 hf) (by rfl) T.b_isinstance (by decide +kernel) (pa_cons (pv 0) (pa_cons (pe_glob (v := .ref _) rfl T.x_NotYours.g rfl) pa_nil))) pa_nil)))))))
      (pss_cons (ps_expr (pe_bm PySem.F.plainAttrs_list PySem.F.slot_list_append PySem.F.type_list_append mt_append (pv 1) (pa_cons (pe_callB (cr_isP C0 hp h1 h2 hf) (by rfl) T.b_isinstance (by decide +kernel) (pa_cons (pv 0) (pa_cons (pe_glob (v := .ref _) rfl T.x_Nothing.g rfl) pa_nil))) pa_nil)))
      (pss_cons (ps_if (PW.pt (pw_or (pt_cmpR op_ne (pe_sumflags hc (pv 1) T.b_sum T.b_int (by rfl) (by decide +kernel) (by decide +kernel) rfl (by decide +kernel) rfl (by rfl)) pe_int (nomark _)) (pw_or1 (pt_not (pt_val (pe_callB (cr_isP C0 hp h1 h2 hf) (by rfl) T.b_isinstance (by decide +kernel) (pa_cons (pv 0) (pa_cons (pe_bltn (v := .ty "ValueError") (by rfl) T.b_ValueError (by decide +kernel) rfl) pa_nil)))))))) (pss_one (ps_ret (pe_tupS (pa_cons pe_str (pa_cons pe_str pa_nil))))) pss_nil)
      (pss_cons (ps_set (i := 2) sc__law_word.nd rfl (Or.inl rfl) (pe_lstS (pa_cons pe_str (pa_cons pe_str (pa_cons pe_str (pa_cons pe_str (pa_cons pe_str (pa_cons pe_str (pa_cons pe_str (pa_cons pe_str (pa_cons pe_str pa_nil)))))))))))
      (pss_one (ps_ret (pe_tupS (pa_cons pe_str (pa_cons (pe_ix ix_list (pv 2) (pe_bm PySem.F.plainAttrs_list PySem.F.slot_list_index PySem.F.type_list_index mt_index (pv 1) (pa_cons pe_bl pa_nil)) (fun _ _ => rfl)) pa_nil)))))))))), ?_⟩
  walk_at "rd"
  simp only [cxH_K, tSumF, tVar]
  have z1 : (16 : Nat) ≤ sizeLine := by rw [sizeLine_eq]; omega
  have is {H1 : Hp} {a : Addr} {Q1 : VK} (x : Str) (hx : x ∈ errs) (q : Q1 (.bl (decide (c = x))) H1) : rIsE K (He.ga K c) a [.ref a, .ref (He.ga K x)] H1 Q1 := use_isP ((T.wd c hc0).d x hx) q
  refine is _ (by decide +kernel) (is _ (by decide +kernel) (is _ (by decide +kernel) (is _ (by decide +kernel) ⟨by omega, fun l1 H1 n1 s1 e1 => ?_⟩)))
  refine is _ (by decide +kernel) (is _ (by decide +kernel) (is _ (by decide +kernel) (is _ (by decide +kernel) ⟨by omega, fun l2 H2 n2 s2 e2 => ?_⟩)))
  refine ⟨l1, l2, _, _, rfl, rfl, s2 _ _ e1, e2, by simp; omega, fun l3 H3 n3 s3 e3 => ?_⟩
  refine ⟨.inl ⟨rfl, _, SqL.of e3⟩, is _ (by decide +kernel) ?_⟩
  refine ⟨l3, _, _, rfl, rfl, e3, by simp; omega, _, rfl, l3, ws.map fun x => decide (c = x), rfl, SqL.of upd_same, ?_⟩
  have s4 := s3.over (o := .lst ((ws.map fun x => decide (c = x)).map V.bl)) n3
  have e4 : upd H3 l3 (.lst ((ws.map fun x => decide (c = x)).map V.bl)) l3 = _ := upd_same
  change scal _ _ = true ∧ (if (!decide (V.int _ = V.int 1)) = true then _ else rIsE _ _ _ _ (upd H3 l3 (.lst ((ws.map fun x => decide (c = x)).map V.bl))) _)
  generalize upd H3 l3 (.lst ((ws.map fun x => decide (c = x)).map V.bl)) = H4 at s4 e4 ⊢
  rw [ws_sum c hc0]
  refine ⟨rfl, iteF (use_isV (T.wd c hc0).v ⟨_, rfl, iteF ⟨by omega, fun l5 H5 n5 s5 e5 => ?_⟩⟩)⟩
  obtain ⟨a1, a2, a3⟩ := ws_at c hc0
  have e6 := s5 _ _ e4
  refine ⟨.inl ⟨rfl, _, SqL.of e6⟩, l3, _, _, ws.idxOf c, V.bl true, rfl, rfl, SqL.of e6, rfl, by rw [List.all_map]; exact List.all_eq_true.mpr fun _ _ => rfl, by rw [List.getElem?_map, a2]; rfl, rfl, fun m z hm hz => ?_, l5, _, _, .str c, rfl, rfl, SqL.of e5, ?_, by omega, fun r H6 n6 s6 e7 => q r H6 ?_ ?_ e7⟩
  · rw [List.getElem?_map, a3 m hm] at hz
    cases hz
    rfl
  · obtain ⟨lt, _⟩ := List.getElem?_eq_some_iff.mp a1
    have lt9 : ws.idxOf c < 9 := lt
    rw [atI_nn (by omega) (by show ((ws.idxOf c : Nat) : Int) < 9; omega), Int.toNat_natCast]
    have e : ([V.str "BadDeed", V.str "BadName", V.str "BadNumber", V.str "BadText", V.str "Full", V.str "NoSaying", V.str "NotKin", V.str "NotYours", V.str "Nothing"] : List V) = ws.map V.str := rfl
    rw [e, List.getElem?_map, a1]
    rfl
  · exact s1.free (s2.free (s4.free (s5.free n6)))
  · exact ((s1.trans s2).trans s4).trans (s5.trans s6)
end
end Vw
namespace Vw
open PySem PySem.Spec PyProof.Rows L2
local macro_rules | `(tactic| walk_at "rd") => `(tactic| simp only [tSeq, tNext, tIfS, tAsg, tRet, tRetN, tDrop, tVar, tC, tOp, tUn, tTest, tB, tAnd, tOr, tNot, tAndV, tOrV, tNotV, tIf, tChain, tCB, tCons, tNil, tCall, tMeth, tMake, tFld, sFld, tTup, tLst, tTupS, tLstS, tDNewKS, tDNewTS, tTold, tCmp, t2I, tIsN, tNotN, tPar, gName, gNil, gCons, gTup, gSub, rI0, rU, rEq, rNe, tDGet, tDIn, tDNotIn, sDPut, tDNewK, tDGet1, tDGet2, tDPop1, tDPop2, tBM, tBM0, tM0, tM1, tSl, tPart, tNoPart, tBreak, tCont, tThru, L2.start, List.map_cons, List.map_nil, List.length_cons, List.length_nil, List.cons_append, List.nil_append, List.append_nil, List.replicate_succ, List.replicate_zero, Nat.reduceAdd, Nat.reduceSub, Nat.zero_add, List.getElem?_cons_zero, List.getElem?_cons_succ, List.set_cons_zero, List.set_cons_succ, wipe, cxOf_K, tYes, List.cons.injEq, and_self, Option.some.injEq, V.int.injEq, V.bl.injEq, V.ref.injEq, V.str.injEq, exists_eq_left', exists_eq_left, exists_and_left, and_assoc, true_and, and_true, if_true, if_false, ite_true, ite_false, Bool.not_true, Bool.not_false, Bool.false_eq_true, reduceIte])
section
variable {P : Program} {w : World} {K : PySem.W.Frag} {mg : Str → Option Value} {base : Heap}
abbrev N__law_told : List Str := ["deed", "e"]
theorem sc__law_told : FnScope N__law_told ["deed"] (defScope s__law_told) := ⟨rfl, rfl, rfl, by decide +kernel, rfl, by decide +kernel, by decide +kernel⟩
theorem be__law_told : BindEq "_law_told" "_law_told" s__law_told ["deed"] := fun _ _ _ _ _ _ us hl => match us, hl with | [_], _ => rfl
theorem tabs_one {P : Addr} {p : Addr × Str} {q : Str} (hp : p ∈ [(P, q)]) : p.2 = q := by
  have e : p = (P, q) := by simpa using hp
  rw [e]
/-- told(lambda: body) in the def x -/
theorem pe_tld {N : List Str} {x : Str} {sc : Scope} {f : Addr} {cdv : Value} {A : Around} {outer : List Env} {s : Shared} {H : Hp} {E : XK} {k : Nat} {params : Arguments} {body : Expr} {scope : Scope} {t : XK → TE} {q0 lpos pos : Pos} (T : Txt K mg base)
    (hcd : cdv = .ref (He.cT K (x, none)).1) (TB : LamX.TabB base mg (He.cT K (x, none)).1 (He.cT K (x, none)).2) (hr : Room (k + 4) (cxN P w K mg base N x sc f cdv A outer s H E).A)
    (L : LamX.LamS sc scope) (hdef : defaultsOf params (cxN P w K mg base N x sc f cdv A outer s H E).env = ([], []))
    (hbind : ∀ (q : Str) (cl : List (Str × Addr)) (pm cv ctv : Value), bindArgs (PySem.W.kla_fn "<lambda>" q params body scope cl pm cv ctv) ⟨[], []⟩ = pure [])
    (hbody : ∀ (A2 : Around) (outer2 : List Env) (s2 : Shared) (H2 : Hp) (E2 : XK) (f2 c2 : Addr), Room (k + 2) (A2.deeper (LamX.lamEnv (cxN P w K mg base N x sc f cdv A outer s H E) scope s2.heap.objs.size f2 c2)) → PE (lamN (cxN P w K mg base N x sc f cdv A outer s H E) A2 outer2 s2 H2 E2 scope f2 c2) body (t E2))
    (hmT : ((He.cT K (x, none)).2, lamQ (cxN P w K mg base N x sc f cdv A outer s H E)) ∈ tabs K := by first | exact List.mem_cons_self | exact List.mem_cons_of_mem _ List.mem_cons_self | exact List.mem_cons_of_mem _ (List.mem_cons_of_mem _ List.mem_cons_self) | exact List.mem_cons_of_mem _ (List.mem_cons_of_mem _ (List.mem_cons_of_mem _ List.mem_cons_self)) | exact List.mem_cons_of_mem _ (List.mem_cons_of_mem _ (List.mem_cons_of_mem _ (List.mem_cons_of_mem _ List.mem_cons_self))))
    (hg : Gl (cxN P w K mg base N x sc f cdv A outer s H E) "_law_told" := by rfl) :
    PE (cxN P w K mg base N x sc f cdv A outer s H E) (.Call (.Name "_law_told" q0) [.Lambda params body scope lpos] [] pos) (tTold K errs (tabs K) t) := by
  obtain ⟨fd, F⟩ := T.f__law_told
  have hu : ∀ p ∈ tabs K, p.1 = (He.cT K (x, none)).2 → p.2 = lamQ (cxN P w K mg base N x sc f cdv A outer s H E) := fun p hp e => congrArg Prod.snd (inj_nodup T.tn hp hmT e)
  obtain ⟨fdw, Fw⟩ := T.f__law_word
  exact pe_told (X := cxN P w K mg base N x sc f cdv A outer s H E) (T := tabs K) (cs := errs) (a := "deed") (n := "e") (wd := "_law_word") (we := "WoodError") (st := s__law_told) (fw := He.ga K "_law_word") (Ng := N__law_told) F sc__law_told be__law_told rfl T.g__law_told T.x_WoodError.g T.g__law_word Fw.kp (H__law_word T) (fun x hx => (T.wd x hx).m)
    rfl (Or.inl rfl) rfl rfl rfl rfl (fun f => rfl) TB hcd hmT hu hr L hdef hbind hbody hg
end
end Vw
namespace Vw
open PySem PySem.Spec PyProof.Rows L2
/-! ### what stays of the law's own objects -/
def IsP (o : HO) : Prop := (∃ C x f, o = .ins C x f) ∨ ∃ k, o = .dK k
/-- all but instances and their dicts stay -/
def K2 (H H' : Hp) : Prop := ∀ b o, H b = some o → ¬ IsP o → H' b = some o
def LK (H H' : Hp) : Prop := ∀ b o, H b = some o → ¬ IsP o → (∀ t, o ≠ .tbl t) → H' b = some o
theorem K2.lk {H H' : Hp} (k : K2 H H') : LK H H' := fun b o h n _ => k b o h n
theorem K2.same {H H' : Hp} (s : Same H H') : K2 H H' := fun b o h _ => s b o h
theorem LK.same {H H' : Hp} (s : Same H H') : LK H H' := fun b o h _ _ => s b o h
theorem LK.trans {H H1 H2 : Hp} (a : LK H H1) (b : LK H1 H2) : LK H H2 := fun c o h n m => b c o (a c o h n m) n m
theorem LK.ext {H H' : Hp} (e : LamX.ExtN H H') : LK H H' := fun b o h _ n => e b o h n
theorem not_lst (xs : List V) : ¬ IsP (.lst xs) := fun z => by rcases z with ⟨_, _, _, z⟩ | ⟨_, z⟩ <;> cases z
theorem not_tup (xs : List V) : ¬ IsP (.tup xs) := fun z => by rcases z with ⟨_, _, _, z⟩ | ⟨_, z⟩ <;> cases z
theorem not_dT (xs : List (List Key × V)) : ¬ IsP (.dT xs) := fun z => by rcases z with ⟨_, _, _, z⟩ | ⟨_, z⟩ <;> cases z
theorem not_tbl (t : Array Value) : ¬ IsP (.tbl t) := fun z => by rcases z with ⟨_, _, _, z⟩ | ⟨_, z⟩ <;> cases z
theorem not_frz (o : Obj) (u : HO) : ¬ IsP (.frz o u) := fun z => by rcases z with ⟨_, _, _, z⟩ | ⟨_, z⟩ <;> cases z
theorem not_code (c : Addr) (q : Str) : ¬ IsP (LamX.CodeO c q) := fun z => by unfold LamX.CodeO at z; rcases z with ⟨_, _, _, z⟩ | ⟨_, z⟩ <;> cases z
theorem LK.lst {H H' : Hp} {a : Addr} {xs : List V} (k : LK H H') (h : H a = some (.lst xs)) : H' a = some (.lst xs) := k _ _ h (not_lst _) (by intro t z; cases z)
theorem LK.tup {H H' : Hp} {a : Addr} {xs : List V} (k : LK H H') (h : H a = some (.tup xs)) : H' a = some (.tup xs) := k _ _ h (not_tup _) (by intro t z; cases z)
theorem LK.dT {H H' : Hp} {a : Addr} {xs : List (List Key × V)} (k : LK H H') (h : H a = some (.dT xs)) : H' a = some (.dT xs) := k _ _ h (not_dT _) (by intro t z; cases z)
theorem LK.seq {K : PySem.W.Frag} {H H' : Hp} {a : Addr} {xs : List V} (k : LK H H') (h : SqL K H a xs) : SqL K H' a xs := by
  rcases h with (h | ⟨o, h⟩) | h
  · exact .inl (.inl (k.lst h))
  · exact .inl (.inr ⟨o, k _ _ h (not_frz _ _) (by intro t z; cases z)⟩)
  · exact .inr h
theorem K2.tabs {T : List (Addr × Str)} {H H' : Hp} (k : K2 H H') (t : LamX.Tabs T H) : LamX.Tabs T H' := fun p hp => by
  obtain ⟨ps, h1, h2, h3⟩ := t p hp
  refine ⟨ps, k _ _ h1 (not_tbl _), h2, fun pos cv hc => ?_⟩
  obtain ⟨c, e1, e2⟩ := h3 pos cv hc
  exact ⟨c, e1, k _ _ e2 (not_code _ _)⟩
theorem upd_tabs {T : List (Addr × Str)} {H : Hp} {d : Addr} {o u : HO} (t : LamX.Tabs T H) (hd : H d = some u) (n1 : ∀ ps, u ≠ .tbl ps) (n2 : ∀ c q, u ≠ LamX.CodeO c q) : LamX.Tabs T (upd H d o) := fun p hp => by
  obtain ⟨ps, h1, h2, h3⟩ := t p hp
  refine ⟨ps, by rw [upd_ne (fun z => n1 ps (by rw [← z, h1] at hd; exact (Option.some.inj hd).symm))]; exact h1, h2, fun pos cv hc => ?_⟩
  obtain ⟨c, e1, e2⟩ := h3 pos cv hc
  exact ⟨c, e1, by rw [upd_ne (fun z => n2 c p.2 (by rw [← z, e2] at hd; exact (Option.some.inj hd).symm))]; exact e2⟩
theorem upd_tabsT {T : List (Addr × Str)} {H : Hp} {d : Addr} {o : HO} {k : List (List Key × V)} (t : LamX.Tabs T H) (hd : H d = some (.dT k)) : LamX.Tabs T (upd H d o) := upd_tabs t hd (by intro ps z; cases z) (by intro c q z; unfold LamX.CodeO at z; cases z)
theorem WoodAt.wk {K : PySem.W.Frag} {H H' : Hp} {L : Lay} (W : WoodAt K H L) (s : ∀ b o, H b = some o → IsP o → H' b = some o) : WoodAt K H' L :=
  ⟨s _ _ W.top (.inl ⟨_, _, _, rfl⟩), s _ _ W.dic (.inr ⟨_, rfl⟩), fun e he => ⟨s _ _ (W.say e he).o (.inl ⟨_, _, _, rfl⟩), s _ _ (W.say e he).d (.inr ⟨_, rfl⟩), (W.say e he).nd, (W.say e he).sz⟩, W.nk, W.nda, W.ndv, W.dv, W.pa, W.sz⟩
theorem WoodAt.ext {K : PySem.W.Frag} {H H' : Hp} {L : Lay} (W : WoodAt K H L) (e : LamX.ExtN H H') : WoodAt K H' L := W.wk fun b o h p => e b o h fun ps z => by
  rw [z] at p
  exact not_tbl _ p
theorem WoodAt.updT {K : PySem.W.Frag} {H : Hp} {L : Lay} {d : Addr} {o : HO} {k : List (List Key × V)} (W : WoodAt K H L) (hd : H d = some (.dT k)) : WoodAt K (upd H d o) L := W.wk fun b u h p => by
  rw [upd_ne (fun z => by rw [z, hd] at h; cases h; exact not_dT _ p)]
  exact h
theorem foot_obj {K : PySem.W.Frag} {H : Hp} {L : Lay} (W : WoodAt K H L) {b : Addr} {o : HO} (hb : b ∈ foot L) (h : H b = some o) : IsP o := by
  have q : b = L.p ∨ b = L.d ∨ b ∈ L.ents.map (·.a) ∨ b ∈ L.ents.map (·.v) := by
    unfold foot at hb
    simpa only [List.mem_cons, List.mem_append] using hb
  rcases q with rfl | rfl | q | q
  · rw [W.top] at h
    cases h
    exact .inl ⟨_, _, _, rfl⟩
  · rw [W.dic] at h
    cases h
    exact .inr ⟨_, rfl⟩
  · obtain ⟨e, he, rfl⟩ := List.mem_map.mp q
    rw [(W.say e he).o] at h
    cases h
    exact .inl ⟨_, _, _, rfl⟩
  · obtain ⟨e, he, rfl⟩ := List.mem_map.mp q
    rw [(W.say e he).d] at h
    cases h
    exact .inr ⟨_, rfl⟩
theorem Step.k2 {K : PySem.W.Frag} {H H' : Hp} {L L' : Lay} (S : Step H L H' L') (W : WoodAt K H L) : K2 H H' := fun b o h n => S.keep b o (fun hb => n (foot_obj W hb h)) h
/-- for over range(n): what comes behind the body is told by its three wishes -/
theorem forR2 {n : Int} {ta : TA} {g : TG} {tb : TS} {D : Ends} {σ : L2.St} {H : Hp} (src : ∀ R : List V → Hp → Prop, R [.int n] H → ta σ H R) (hn : n < 100000) (Pv : Nat → L2.St → Hp → Prop) (h0 : Pv 0 σ H)
    (hs : ∀ (i : Nat) σ' H' (D' : Ends), (i : Int) < n → Pv i σ' H' → (∀ σ2 H2, Pv (i + 1) σ2 H2 → D'.nx σ2 H2) → (∀ σ2 H2, Pv (i + 1) σ2 H2 → D'.ct σ2 H2) → D'.rt = D.rt → D'.bk = D.nx → g (.int i) σ' H' fun σ2 H2 => tb D' σ2 H2)
    (hd : ∀ σ' H', Pv n.toNat σ' H' → D.nx σ' H') (hl : -100000 < n := by omega) : tFor (iRng1 ta) g tb D σ H :=
  forR src hn Pv h0 (fun i σ' H' hi p => hs i σ' H' _ hi p (fun _ _ h => h) (fun _ _ h => h) rfl rfl) hd hl
theorem forL2 {α : Type} {K : PySem.W.Frag} {te0 : TE} {g : TG} {tb : TS} {D : Ends} {σ : L2.St} {H : Hp} {l : List α} (it : α → V) (src : ∀ R : VK, (∀ p H1, Same H H1 → SqL K H1 p (l.map it) → R (.ref p) H1) → te0 σ H R)
    (Pv : Addr → Nat → L2.St → Hp → Prop) (h0 : ∀ p H1, Same H H1 → SqL K H1 p (l.map it) → Pv p 0 σ H1) (hG : ∀ p i σ' H', i ≤ l.length → Pv p i σ' H' → SqL K H' p (l.map it))
    (hs : ∀ p i a σ' H' (D' : Ends), l[i]? = some a → Pv p i σ' H' → (∀ σ2 H2, Pv p (i + 1) σ2 H2 → D'.nx σ2 H2) → (∀ σ2 H2, Pv p (i + 1) σ2 H2 → D'.ct σ2 H2) → D'.rt = D.rt → D'.bk = D.nx → g (it a) σ' H' fun σ2 H2 => tb D' σ2 H2)
    (hd : ∀ p σ' H', Pv p l.length σ' H' → D.nx σ' H') : tFor (iList K te0) g tb D σ H :=
  forL it src Pv h0 hG (fun p i a σ' H' hi q => hs p i a σ' H' _ hi q (fun _ _ h => h) (fun _ _ h => h) rfl rfl) hd
/-- over the keys of a dict whose keys are tuples, under its lock -/
theorem lcT {te0 : TE} {g : TG} {tt : TT} {te : TE} {vs : List Nat} {σ : L2.St} {H : Hp} {Q : VK} {α : Type} {l : List α} {d : Addr} (kv : α → List Key × V) (f : α → Option V) (hk : H d = some (.dT (l.map kv))) (src : ∀ (H' : Hp) (R : VK), R (.ref d) H' → te0 σ H' R) (hn : l.length < sizeLine)
    (hs : ∀ a H' od q, a ∈ l → H' d = some (.frz od (.dT (l.map kv))) → H' q = some (.tup ((kv a).1.map kV)) → Turn1 f g tt te vs σ H' a (.ref q))
    (hd : ∀ D H', H D = none → Same H H' → H' D = some (.lst (l.filterMap f)) → Q (.ref D) H') : tLockE (tLc (iKeys te0) g tt te vs) σ H Q := by
  refine ⟨d, _, hk, trivial, fun od => src _ _ ⟨d, od, rfl, .inr ⟨_, upd_same, fun D hD => ?_⟩⟩⟩
  have nD : D ≠ d := fun z => by
    rw [z, upd_same] at hD
    cases hD
  have w : Walk (Itkt d od (l.map kv)) l.length (fun H => H d = some (.frz od (.dT (l.map kv)))) (fun i H x H' => H' = H ∧ ∃ (k : List Key) (v : V) (q : Addr), (l.map kv)[i]? = some (k, v) ∧ x = .ref q ∧ H q = some (.tup (k.map kV))) := by
    have w := walk_keysT (d := d) (o := od) (kvs := l.map kv)
    rw [List.length_map] at w
    exact w
  refine lc_ro l w f hn hD (fun H' s => s _ _ upd_same) (fun i a x H2 H3 ha s2 y => ?_) (fun H' s2 e => ⟨s2 _ _ upd_same, hd D _ (by rw [upd_ne nD] at hD; exact hD) (Same.lock hk s2) (by rw [upd_ne nD]; exact e)⟩)
  obtain ⟨rfl, k, v, q, hx, rfl, hq⟩ := y
  have e : (k, v) = kv a := by
    rw [List.getElem?_map, ha] at hx
    exact (Option.some.inj hx).symm
  have e1 : k = (kv a).1 := congrArg Prod.fst e
  rw [e1] at hq
  exact hs a _ od q (List.mem_of_getElem? ha) (s2 _ _ upd_same) hq
section
variable {K : PySem.W.Frag} {H : Hp} {L : Lay} {Q : VK} {E : XK} {m : Int} {r : Row}
theorem says_row (hm : sayingM L.wd (.int m) = some (m, r)) {e : Ent} (he : sayingD L (.int m) = some e) : e.row = r := by
  rw [sayingME, he] at hm
  exact congrArg Prod.snd (Option.some.inj hm)
theorem says_some (hm : sayingM L.wd (.int m) = some (m, r)) : sayingD L (.int m) ≠ none := fun z => by
  rw [sayingME, z] at hm
  cases hm
theorem use_look (W : WoodAt K H L) (hm : sayingM L.wd (.int m) = some (m, r)) (q : New (.tup [.str r.who, .int r.under, if r.struck then .non else .str r.text, .int r.time]) H Q) : spLook K [.ref L.p, .int m] H Q E :=
  ⟨L, .int m, .int m, rfl, W, .int m, fun e he p H' n s h => q p H' n s (by rw [← says_row hm he]; exact h), fun z => absurd z (says_some hm)⟩
theorem use_votesOf (W : WoodAt K H L) (hm : sayingM L.wd (.int m) = some (m, r)) (q : New (.tup [.int r.ups, .int r.downs]) H Q) : spVotesOf K [.ref L.p, .int m] H Q E :=
  ⟨L, .int m, .int m, rfl, W, .int m, fun e he p H' n s h => q p H' n s (by rw [← says_row hm he]; exact h), fun z => absurd z (says_some hm)⟩
theorem short_name {z : Str} (h : nameZ z = true) : Short (.str z) := by
  unfold nameZ at h
  simp only [Bool.and_eq_true, decide_eq_true_eq] at h
  show z.length < sizeLine
  rw [sizeLine_eq]
  omega
theorem use_standing {z : Str} (W : WoodAt K H L) (hz : nameZ z = true) (q : ∀ H', Same H H' → Q (.int (standingM L.wd z)) H') : spStanding K [.ref L.p, .str z] H Q E :=
  ⟨L, .str z, .str z, rfl, W, .str z, short_name hz, (fun h => absurd (show nameZ z = false from h) (by rw [hz]; decide)), (fun z' h _ H' s => by
    cases h
    exact q H' s)⟩
theorem dp_refu {x : Str} {p : Addr} (h : H p = some (.tup [.str "refused", .str x])) : Dp K H (.ref p) (.tuple [.str "refused", .str x]) := .tup (.inl (.inl h)) (.cons (.str _) (.cons (.str _) .nil))
theorem dp_int2 {x y : Int} {p : Addr} (h : H p = some (.tup [.int x, .int y])) : Dp K H (.ref p) (.tuple [.int x, .int y]) := .tup (.inl (.inl h)) (.cons (.int _) (.cons (.int _) .nil))
end
theorem refu_lk {H H' : Hp} (s : Same H H') : LK H H' := LK.same s
end Vw
namespace Vw
open PySem PySem.Spec PyProof.Rows L2
/-! ### a wood that can be stays one -/
theorem above_congr {rs rs' : Rows} : ∀ (k : Nat) (n : Int), n.toNat ≤ k → (∀ m, (m = n ∨ m ∈ aboveR rs n) → upR rs' m = upR rs m) → aboveR rs' n = aboveR rs n
  | k, n, hk, h => by
    have e := h n (.inl rfl)
    rw [aboveR]
    conv => rhs; rw [aboveR]
    rw [e]
    by_cases c : 0 < n ∧ 0 ≤ upR rs n ∧ upR rs n < n
    · rw [dif_pos c, dif_pos c]
      have mem : ∀ m, (m = upR rs n ∨ m ∈ aboveR rs (upR rs n)) → m ∈ aboveR rs n := fun m hm => by
        rw [aboveR, dif_pos c]
        rcases hm with rfl | hm
        · exact List.mem_cons_self
        · exact List.mem_cons_of_mem _ hm
      cases k with
      | zero => omega
      | succ k => rw [above_congr k (upR rs n) (by omega) fun m hm => h m (.inr (mem m hm))]
    · rw [dif_neg c, dif_neg c]
theorem upR_set {rs : Rows} {n : Int} {r r' : Row} (h : findR rs n = some r) (hu : r'.under = r.under) (m : Int) : upR (setR rs n r') m = upR rs m := by
  unfold upR
  rw [findR_setR]
  by_cases e : m = n
  · rw [if_pos e, e, h]
    show r'.under = r.under
    exact hu
  · rw [if_neg e]
theorem above_set {rs : Rows} {n : Int} {r r' : Row} (h : findR rs n = some r) (hu : r'.under = r.under) (m : Int) : aboveR (setR rs n r') m = aboveR rs m := above_congr m.toNat m (Nat.le_refl _) fun x _ => upR_set h hu x
theorem Good.set {M : Wd} (G : Good M) {n : Int} {r r' : Row} (h : findR M.rows n = some r) (hu : r'.under = r.under) : Good { M with rows := setR M.rows n r' } := by
  have key : ∀ p ∈ setR M.rows n r', ∃ q ∈ M.rows, q.1 = p.1 := fun p hp => by
    rcases mem_setR hp with ⟨rfl, r0, h0⟩ | ⟨h0, _⟩
    · exact ⟨_, h0, rfl⟩
    · exact ⟨p, h0, rfl⟩
  refine ⟨G.wf.set h hu, fun p hp => ?_, fun p hp => ?_, ?_⟩
  · obtain ⟨q, hq, e⟩ := key p hp
    rw [← e]
    exact G.le q hq
  · obtain ⟨q, hq, e⟩ := key p hp
    show (aboveR (setR M.rows n r') p.1).length ≤ 8
    rw [above_set h hu, ← e]
    exact G.dp q hq
  · show (setR M.rows n r').length ≤ 60
    unfold setR
    rw [List.length_map]
    exact G.len
theorem upR_drop (rs : Rows) {n m : Int} (h : m ≠ n) : upR (dropR rs n) m = upR rs m := by
  unfold upR
  rw [findR_drop, if_neg h]
theorem above_drop {rs : Rows} (F : Wf rs) {n m : Int} (hr : repliesR rs n = []) (hm : ∃ r, findR rs m = some r) (hn : m ≠ n) : aboveR (dropR rs n) m = aboveR rs m := by
  refine above_congr m.toNat m (Nat.le_refl _) fun x hx => upR_drop rs fun z => ?_
  subst z
  rcases hx with rfl | hx
  · exact hn rfl
  · obtain ⟨c, hc, _⟩ := above_child F m.toNat (Nat.le_refl _) hm hx
    rw [hr] at hc
    cases hc
theorem Good.drop {M : Wd} (G : Good M) {n : Int} (hr : repliesR M.rows n = []) : Good { M with rows := dropR M.rows n } := by
  have key : ∀ p ∈ dropR M.rows n, p ∈ M.rows ∧ p.1 ≠ n := fun p hp => by
    have := List.mem_filter.mp hp
    exact ⟨this.1, by simpa using this.2⟩
  refine ⟨G.wf.drop hr, fun p hp => G.le p (key p hp).1, fun p hp => ?_, ?_⟩
  · obtain ⟨h1, h2⟩ := key p hp
    show (aboveR (dropR M.rows n) p.1).length ≤ 8
    rw [above_drop G.wf hr ⟨p.2, findR_of G.wf.nk h1⟩ h2]
    exact G.dp p h1
  · exact Nat.le_trans (List.length_filter_le _ _) G.len
theorem Good.gone {M : Wd} (G : Good M) : ∀ (k : Nat) (rs : Rows) (n : Int), n.toNat ≤ k → Good { M with rows := rs } → Good { M with rows := (goneR rs n).1 }
  | k, rs, n, hk, g => by
    rw [goneR]
    cases q : findR rs n with
    | none => exact g
    | some r =>
      dsimp only
      split
      · rename_i h
        cases k with
        | zero => omega
        | succ k => exact Good.gone G k (dropR rs n) r.under (by omega) (Good.drop g h.2.2.2.2)
      · exact g
theorem findR_app {rs : Rows} {n : Int} {r : Row} (hn : ∀ p ∈ rs, p.1 ≠ n) (m : Int) : findR (rs ++ [(n, r)]) m = if m = n then some r else findR rs m := by
  unfold findR
  rw [List.find?_append]
  by_cases e : m = n
  · have : rs.find? (fun p => decide (p.1 = m)) = none := List.find?_eq_none.mpr fun p hp => by simpa [e] using hn p hp
    rw [this, if_pos e]
    simp [e]
  · rw [if_neg e]
    cases rs.find? fun p => decide (p.1 = m) with
    | none => simp [List.find?_cons, Ne.symm e]
    | some p => rfl
theorem Good.say {M : Wd} (G : Good M) {b u t : PyData} {k : Int} {M' : Wd} (h : sayM M b u t = .ok (k, M')) (hc : 0 ≤ M.came) : Good M' ∧ M'.came = M.came + 1 ∧ k = M.came + 1 := by
  unfold sayM at h
  split at h
  · cases h
  · split at h
    · cases h
    · rename_i hu
      split at h
      · cases h
      · split at h
        · rename_i who n text _ _
          split at h
          · cases h
          · rename_i hf
            cases h
            have hn : ∀ p ∈ M.rows, p.1 ≠ M.came + 1 := fun p hp => by
              have := G.le p hp
              omega
            have hu : n = 0 ∨ ∃ r, findR M.rows n = some r := by
              have hu : underOk M (.int n) = true := by simpa using hu
              have hu : (decide (n = 0) || (decide (1 ≤ n) && decide (n ≤ M.came) && (findR M.rows n).isSome)) = true := hu
              simp only [Bool.or_eq_true, Bool.and_eq_true, decide_eq_true_eq, Option.isSome_iff_exists] at hu
              exact hu.elim .inl fun z => .inr z.2
            have n0 : 0 ≤ n ∧ n ≤ M.came := by
              rcases hu with rfl | ⟨r, hr⟩
              · exact ⟨by omega, hc⟩
              · have m := findR_mem hr
                have h1 := G.wf.pos _ m
                have h2 := G.le _ m
                have h1 : 0 < n := h1
                exact ⟨by omega, h2⟩
            have ab : ∀ m, m ≠ M.came + 1 → (m = 0 ∨ ∃ r, findR M.rows m = some r) → aboveR (M.rows ++ [(M.came + 1, ⟨who, n, text, M.clock, [], false⟩)]) m = aboveR M.rows m := fun m hm hx => by
              refine above_congr m.toNat m (Nat.le_refl _) fun x hx' => ?_
              have ne : x ≠ M.came + 1 := by
                rcases hx' with rfl | hx'
                · exact hm
                · obtain ⟨a1, a2, a3⟩ := above_lt G.wf hx'
                  rcases a3 with z | ⟨r, z⟩
                  · omega
                  · have := G.le _ (findR_mem z)
                    have : x ≤ M.came := this
                    omega
              unfold upR
              rw [findR_app hn, if_neg ne]
            have F : Wf (M.rows ++ [(M.came + 1, (⟨who, n, text, M.clock, [], false⟩ : Row))]) := by
              refine ⟨?_, fun p hp => ?_, fun p hp => ?_, fun p hp => ?_, fun p hp => ?_⟩
              · rw [List.map_append]
                refine List.nodup_append.mpr ⟨G.wf.nk, by simp, fun a ha b hb => ?_⟩
                obtain ⟨p, hp, rfl⟩ := List.mem_map.mp ha
                have eb : b = M.came + 1 := by simpa using hb
                rw [eb]
                exact hn p hp
              all_goals rcases List.mem_append.mp hp with hp | hp
              · exact G.wf.pos p hp
              · cases List.mem_singleton.mp hp
                show 0 < M.came + 1
                omega
              · exact G.wf.u0 p hp
              · cases List.mem_singleton.mp hp
                exact n0.1
              · exact G.wf.ult p hp
              · cases List.mem_singleton.mp hp
                show n < M.came + 1
                omega
              · rcases G.wf.has p hp with z | ⟨r, z⟩
                · exact .inl z
                · refine .inr ⟨r, ?_⟩
                  rw [findR_app hn, if_neg, z]
                  have := G.le _ (findR_mem z)
                  have : p.2.under ≤ M.came := this
                  omega
              · cases List.mem_singleton.mp hp
                show n = 0 ∨ _
                rcases hu with z | ⟨r, z⟩
                · exact .inl z
                · refine .inr ⟨r, ?_⟩
                  show findR _ n = _
                  rw [findR_app hn, if_neg (by omega), z]
            refine ⟨⟨F, fun p hp => ?_, fun p hp => ?_, ?_⟩, rfl, rfl⟩
            · rcases List.mem_append.mp hp with hp | hp
              · have := G.le p hp
                show p.1 ≤ M.came + 1
                omega
              · cases List.mem_singleton.mp hp
                exact Int.le_refl _
            · rcases List.mem_append.mp hp with hp | hp
              · show (aboveR _ p.1).length ≤ 8
                rw [ab p.1 (hn p hp) (.inr ⟨p.2, findR_of G.wf.nk hp⟩)]
                exact G.dp p hp
              · cases List.mem_singleton.mp hp
                show (aboveR (M.rows ++ [(M.came + 1, (⟨who, n, text, M.clock, [], false⟩ : Row))]) (M.came + 1)).length ≤ 8
                rw [F.above (r := ⟨who, n, text, M.clock, [], false⟩) (by rw [findR_app hn, if_pos rfl])]
                show (n :: aboveR _ n).length ≤ 8
                rw [ab n (by omega) hu]
                by_cases hz : n = 0
                · rw [hz, above_zero]
                  simp
                · have : ¬ 8 ≤ deepI M.rows n + 1 := fun z => hf (.inr ⟨hz, z⟩)
                  obtain ⟨r, hr⟩ := hu.resolve_left hz
                  unfold deepI at this
                  rw [List.length_cons]
                  omega
            · show (M.rows ++ [_]).length ≤ 60
              rw [List.length_append]
              have : ¬ 60 ≤ M.rows.length := fun z => hf (.inl z)
              simp only [List.length_cons, List.length_nil]
              omega
        · cases h
end Vw
namespace Vw
open PySem PySem.Spec PyProof.Rows L2
local macro_rules | `(tactic| walk_at "rd") => `(tactic| simp only [tSeq, tNext, tIfS, tAsg, tRet, tRetN, tDrop, tVar, tC, tOp, tUn, tTest, tB, tAnd, tOr, tNot, tAndV, tOrV, tNotV, tIf, tChain, tCB, tCons, tNil, tCall, tMeth, tMake, tFld, sFld, tTup, tLst, tTupS, tLstS, tDNewKS, tDNewTS, tTold, tCmp, t2I, tIsN, tNotN, tPar, gName, gNil, gCons, gTup, gSub, rI0, rU, rEq, rNe, tDGet, tDIn, tDNotIn, sDPut, tDNewK, tDGet1, tDGet2, tDPop1, tDPop2, tBM, tBM0, tM0, tM1, tSl, tPart, tNoPart, tBreak, tCont, tThru, L2.start, List.map_cons, List.map_nil, List.length_cons, List.length_nil, List.cons_append, List.nil_append, List.append_nil, List.replicate_succ, List.replicate_zero, Nat.reduceAdd, Nat.reduceSub, Nat.zero_add, List.getElem?_cons_zero, List.getElem?_cons_succ, List.set_cons_zero, List.set_cons_succ, wipe, cxOf_K, tYes, List.cons.injEq, and_self, Option.some.injEq, V.int.injEq, V.bl.injEq, V.ref.injEq, V.str.injEq, exists_eq_left', exists_eq_left, exists_and_left, and_assoc, true_and, and_true, if_true, if_false, ite_true, ite_false, Bool.not_true, Bool.not_false, Bool.false_eq_true, reduceIte])
/-! ### a wood of the law's own: dicts -/
structure OEnt where
  n : Int
  row : Row
  a : Addr
  v : Addr
structure OLay where
  p : Addr
  d : Addr
  ents : List OEnt
  came : Int
  clock : Int
def tellV (r : Row) : V := if r.struck = true then .non else .str r.text
def rowK (r : Row) (v : Addr) : List (Key × V) := [(Sum.inr "by", .str r.who), (Sum.inr "under", .int r.under), (Sum.inr "text", tellV r), (Sum.inr "time", .int r.time), (Sum.inr "votes", .ref v)]
def ownK (d : Addr) (c k : Int) : List (Key × V) := [(Sum.inr "rows", .ref d), (Sum.inr "came", .int c), (Sum.inr "clock", .int k)]
def oK (e : OEnt) : Key × V := (Sum.inl e.n, .ref e.a)
/-- as it is read: the dict of rows may be locked -/
structure OwnRd (H : Hp) (O : OLay) : Prop where
  top : H O.p = some (.dK (ownK O.d O.came O.clock))
  dic : Rd H O.d (.dK (O.ents.map oK))
  row : ∀ e ∈ O.ents, H e.a = some (.dK (rowK e.row e.v))
  vot : ∀ e ∈ O.ents, H e.v = some (.dK (votesK e.row.votes))
  nk : (O.ents.map (·.n)).Nodup
  ndv : ∀ e ∈ O.ents, (e.row.votes.map (·.1)).Nodup
  sz : O.ents.length < 64
  vsz : ∀ e ∈ O.ents, e.row.votes.length < 99999
def footO (O : OLay) : List Addr := O.p :: O.d :: (O.ents.map (·.a) ++ O.ents.map (·.v))
structure OwnAt (H : Hp) (O : OLay) : Prop where
  rd : OwnRd H O
  dic : H O.d = some (.dK (O.ents.map oK))
  nd : (footO O).Nodup
theorem mem_foO_a {O : OLay} {e : OEnt} (he : e ∈ O.ents) : e.a ∈ O.ents.map (·.a) ++ O.ents.map (·.v) := List.mem_append_left _ (List.mem_map.mpr ⟨e, he, rfl⟩)
theorem mem_foO_v {O : OLay} {e : OEnt} (he : e ∈ O.ents) : e.v ∈ O.ents.map (·.a) ++ O.ents.map (·.v) := List.mem_append_right _ (List.mem_map.mpr ⟨e, he, rfl⟩)
theorem OwnAt.pd {H : Hp} {O : OLay} (W : OwnAt H O) : O.p ≠ O.d := fun z => by
  have := (List.nodup_cons.mp W.nd).1
  exact this (by rw [z]; exact List.mem_cons_self)
theorem OwnAt.da {H : Hp} {O : OLay} (W : OwnAt H O) : ∀ e ∈ O.ents, e.a ≠ O.d ∧ e.v ≠ O.d ∧ e.a ≠ O.p ∧ e.v ≠ O.p := fun e he => by
  have h1 := (List.nodup_cons.mp W.nd).1
  have h2 := (List.nodup_cons.mp (List.nodup_cons.mp W.nd).2).1
  exact ⟨fun z => h2 (z ▸ mem_foO_a he), fun z => h2 (z ▸ mem_foO_v he), fun z => h1 (z ▸ List.mem_cons_of_mem _ (mem_foO_a he)), fun z => h1 (z ▸ List.mem_cons_of_mem _ (mem_foO_v he))⟩
theorem OwnAt.both {H : Hp} {O : OLay} (W : OwnAt H O) : (O.ents.map (·.a) ++ O.ents.map (·.v)).Nodup := (List.nodup_cons.mp (List.nodup_cons.mp W.nd).2).2
theorem OwnAt.nda {H : Hp} {O : OLay} (W : OwnAt H O) : (O.ents.map (·.a)).Nodup := (List.nodup_append.mp W.both).1
theorem OwnAt.ndv {H : Hp} {O : OLay} (W : OwnAt H O) : (O.ents.map (·.v)).Nodup := (List.nodup_append.mp W.both).2.1
theorem OwnAt.av {H : Hp} {O : OLay} (W : OwnAt H O) : ∀ e ∈ O.ents, ∀ e' ∈ O.ents, e.a ≠ e'.v := fun e he e' he' => (List.nodup_append.mp W.both).2.2 _ (List.mem_map.mpr ⟨e, he, rfl⟩) _ (List.mem_map.mpr ⟨e', he', rfl⟩)
def OLay.rows (O : OLay) : Rows := O.ents.map fun e => (e.n, e.row)
def OLay.wd (O : OLay) : Wd := ⟨O.rows, O.came, O.clock⟩
def findO (es : List OEnt) (n : Int) : Option OEnt := es.find? fun e => decide (e.n = n)
theorem findO_mem {es : List OEnt} {n : Int} {e : OEnt} (h : findO es n = some e) : e ∈ es ∧ e.n = n := ⟨List.mem_of_find?_eq_some h, by have := List.find?_some h; simpa using this⟩
theorem OLay.find (O : OLay) (n : Int) : findR O.rows n = (findO O.ents n).map (·.row) := by
  unfold findR findO OLay.rows
  rw [List.find?_map]
  cases q : O.ents.find? ((fun p : Int × Row => decide (p.1 = n)) ∘ fun e : OEnt => (e.n, e.row)) with
  | none =>
    have : O.ents.find? (fun e => decide (e.n = n)) = none := q
    rw [this]
    rfl
  | some e =>
    have : O.ents.find? (fun e => decide (e.n = n)) = some e := q
    rw [this]
    rfl
theorem OLay.ent {O : OLay} {n : Int} {r : Row} (h : findR O.rows n = some r) : ∃ e, findO O.ents n = some e ∧ e.row = r := by
  rw [O.find] at h
  cases q : findO O.ents n with
  | none => rw [q] at h; cases h
  | some e => rw [q] at h; exact ⟨e, rfl, Option.some.inj h⟩
theorem valV_oK {es : List OEnt} {n : Int} : valV (es.map oK) (Sum.inl n) = (findO es n).map fun e => V.ref e.a := by
  unfold valV findO
  rw [List.find?_map]
  have e : ((fun kv : Key × V => decide (kv.1 = Sum.inl n)) ∘ oK) = fun e : OEnt => decide (e.n = n) := by
    funext e
    show decide (Sum.inl e.n = (Sum.inl n : Key)) = decide (e.n = n)
    by_cases h : e.n = n
    · rw [decide_eq_true h, decide_eq_true (by rw [h])]
    · rw [decide_eq_false h, decide_eq_false (fun z => h (Sum.inl.inj z))]
  rw [e]
  cases es.find? fun e => decide (e.n = n) <;> rfl
theorem inr_eq {a b : String} : ((Sum.inr (Str.ofString a) : Key) = Sum.inr (Str.ofString b)) = (a = b) := by
  rw [← ofString_inj]
  exact propext ⟨Sum.inr.inj, fun h => by rw [h]⟩
section
variable {H : Hp} {O : OLay} {n : Int} {e : OEnt}
theorem g_rows (h : H O.p = some (.dK (ownK O.d O.came O.clock))) : DGet H O.p (.str (Str.ofString "rows")) (some (.ref O.d)) := .inl ⟨_, Sum.inr "rows", .inl h, rfl, by simp [valV, ownK, List.find?_cons, ofString_inj]⟩
theorem g_came (h : H O.p = some (.dK (ownK O.d O.came O.clock))) : DGet H O.p (.str (Str.ofString "came")) (some (.int O.came)) := .inl ⟨_, Sum.inr "came", .inl h, rfl, by simp [valV, ownK, List.find?_cons, ofString_inj]⟩
theorem g_clock (h : H O.p = some (.dK (ownK O.d O.came O.clock))) : DGet H O.p (.str (Str.ofString "clock")) (some (.int O.clock)) := .inl ⟨_, Sum.inr "clock", .inl h, rfl, by simp [valV, ownK, List.find?_cons, ofString_inj]⟩
theorem g_by {r : Row} {a v : Addr} (h : H a = some (.dK (rowK r v))) : DGet H a (.str (Str.ofString "by")) (some (.str r.who)) := .inl ⟨_, Sum.inr "by", .inl h, rfl, by simp [valV, rowK, List.find?_cons, ofString_inj]⟩
theorem g_under {r : Row} {a v : Addr} (h : H a = some (.dK (rowK r v))) : DGet H a (.str (Str.ofString "under")) (some (.int r.under)) := .inl ⟨_, Sum.inr "under", .inl h, rfl, by simp [valV, rowK, List.find?_cons, ofString_inj]⟩
theorem g_text {r : Row} {a v : Addr} (h : H a = some (.dK (rowK r v))) : DGet H a (.str (Str.ofString "text")) (some (tellV r)) := .inl ⟨_, Sum.inr "text", .inl h, rfl, by simp [valV, rowK, List.find?_cons, ofString_inj]⟩
theorem g_time {r : Row} {a v : Addr} (h : H a = some (.dK (rowK r v))) : DGet H a (.str (Str.ofString "time")) (some (.int r.time)) := .inl ⟨_, Sum.inr "time", .inl h, rfl, by simp [valV, rowK, List.find?_cons, ofString_inj]⟩
theorem g_votes {r : Row} {a v : Addr} (h : H a = some (.dK (rowK r v))) : DGet H a (.str (Str.ofString "votes")) (some (.ref v)) := .inl ⟨_, Sum.inr "votes", .inl h, rfl, by simp [valV, rowK, List.find?_cons, ofString_inj]⟩
theorem OwnRd.at (W : OwnRd H O) (h : findO O.ents n = some e) : DGet H O.d (.int n) (some (.ref e.a)) := .inl ⟨_, Sum.inl n, W.dic, rfl, by rw [valV_oK, h]; rfl⟩
theorem OwnRd.isD (W : OwnRd H O) : IsD H O.d := .inl ⟨_, W.dic⟩
theorem OwnRd.same {H' : Hp} (W : OwnRd H O) (s : Same H H') : OwnRd H' O := ⟨s _ _ W.top, W.dic.elim (fun h => .inl (s _ _ h)) (fun ⟨o, h⟩ => .inr ⟨o, s _ _ h⟩), fun e he => s _ _ (W.row e he), fun e he => s _ _ (W.vot e he), W.nk, W.ndv, W.sz, W.vsz⟩
theorem OwnAt.same {H' : Hp} (W : OwnAt H O) (s : Same H H') : OwnAt H' O := ⟨W.rd.same s, s _ _ W.dic, W.nd⟩
/-- under the lock of the rows -/
theorem OwnAt.lock {H' : Hp} {od : Obj} (W : OwnAt H O) (k : ∀ b o, b ≠ O.d → H b = some o → H' b = some o) (hd : H' O.d = some (.frz od (.dK (O.ents.map oK)))) : OwnRd H' O :=
  ⟨k _ _ W.pd W.rd.top, .inr ⟨od, hd⟩, fun e he => k _ _ (W.da e he).1 (W.rd.row e he), fun e he => k _ _ (W.da e he).2.1 (W.rd.vot e he), W.rd.nk, W.rd.ndv, W.rd.sz, W.rd.vsz⟩
end
section
variable {P : Program} {w : World} {K : PySem.W.Frag} {mg : Str → Option Value} {base : Heap}
def spOwnD : Sp := fun vs H Q _ => vs = [] ∧ ∀ p d H', H p = none → H d = none → Same H H' → OwnAt H' ⟨p, d, [], 0, 0⟩ → Q (.ref p) H'
abbrev N__law_own : List Str := []
theorem sc__law_own : FnScope N__law_own [] (defScope s__law_own) := ⟨rfl, rfl, rfl, by decide +kernel, rfl, by decide +kernel, by decide +kernel⟩
theorem be__law_own : BindEq "_law_own" "_law_own" s__law_own [] := fun _ _ _ _ _ _ us hl => match us, hl with | [], _ => rfl
theorem D__law_own (T : Txt K mg base) : Def P w K mg base 1 (He.ga K "_law_own") [] spOwnD := by
  refine mk_def T.f__law_own sc__law_own be__law_own (fun vs H Q E h => ?_) (fun cdv A outer s H vs Q E hr h => ?_)
  · obtain ⟨rfl, _⟩ := h
    rfl
  · obtain ⟨rfl, k⟩ := h
    refine ⟨_, (pss_one (ps_ret (pe_disp (pps_cons pe_str pe_dnewKS (pps_cons pe_str pe_int (pps_cons pe_str pe_int pps_nil))) (by rfl) (by rfl) (fun z => by cases z) (by decide)))), ?_⟩
    walk_at "rd"
    intro p np
    simp only [tPairs, tC, tDNewKS]
    intro d H2 nd s2 e2
    have ndp : d ≠ p := fun z => by
      rw [z, upd_same] at nd
      cases nd
    rw [upd_ne ndp] at nd
    refine ⟨s2 _ _ upd_same, ownK d 0 0, rfl, by show 3 ≤ 15; decide, ?_⟩
    have em : mergeK [] (ownK d 0 0) = ownK d 0 0 := by simp [mergeK, ownK, putK, ofString_inj]
    rw [em]
    have s3 : Same H H2 := fun b o e => s2 b o (by rw [upd_ne (ne_of_none e np)]; exact e)
    have e3 : upd H2 p (.dK (ownK d 0 0)) d = some (.dK []) := by rw [upd_ne ndp]; exact e2
    exact k p d _ np nd (s3.over np) ⟨⟨upd_same, .inl e3, (fun e he => nomatch he), (fun e he => nomatch he), List.Pairwise.nil, (fun e he => nomatch he), by show 0 < 64; decide, (fun e he => nomatch he)⟩, e3, by show [p, d].Nodup; simp [Ne.symm ndp]⟩
def spAbove (K : PySem.W.Frag) : Sp := fun vs H Q _ => ∃ (O : OLay) (n : Int), vs = [.ref O.p, .int n] ∧ OwnRd H O ∧ Wf O.rows ∧ (n = 0 ∨ ∃ r, findR O.rows n = some r) ∧ (aboveR O.rows n).length ≤ 8 ∧ New (.lst ((aboveR O.rows n).map V.int)) H Q
abbrev N__law_above : List Str := ["own", "number", "found"]
theorem sc__law_above : FnScope N__law_above ["own", "number"] (defScope s__law_above) := ⟨rfl, rfl, rfl, by decide +kernel, rfl, by decide +kernel, by decide +kernel⟩
theorem be__law_above : BindEq "_law_above" "_law_above" s__law_above ["own", "number"] := fun _ _ _ _ _ _ us hl => match us, hl with | [_, _], _ => rfl
theorem D__law_above (T : Txt K mg base) : Def P w K mg base 1 (He.ga K "_law_above") ["own", "number"] (spAbove K) := by
  refine mk_def T.f__law_above sc__law_above be__law_above (fun vs H Q E h => ?_) (fun cdv A outer s H vs Q E hr h => ?_)
  · obtain ⟨O, n, rfl, _⟩ := h
    rfl
  · obtain ⟨O, n, rfl, W, F, hn, h8, k⟩ := h
    refine ⟨_, (pss_cons (ps_set (i := 2) sc__law_above.nd rfl (Or.inl rfl) (pe_lstS pa_nil))
      (pss_cons (ps_while ownE (pt_cmpR op_ne (pv 1) pe_int (nomark _)) (pss_cons (ps_set (i := 1) sc__law_above.nd rfl (Or.inl rfl) (pe_dg (pe_dg (pe_dg (pv 0) pe_str (by exact hu_of hr)) (pv 1) (by exact hu_of hr)) pe_str (by exact hu_of hr)))
      (pss_one (ps_expr (pe_bm PySem.F.plainAttrs_list PySem.F.slot_list_append PySem.F.type_list_append mt_append (pv 2) (pa_cons (pv 1) pa_nil))))))
      (pss_one (ps_ret (pv 2))))), ?_⟩
    walk_at "rd"
    refine ⟨Nat.zero_le _, fun l H1 n1 s1 e1 => ?_⟩
    refine ⟨fun m σ H' => ∃ (i : Int) (pre : List Int), σ = [some (.ref O.p), some (.int i), some (.ref l)] ∧ m = i.toNat ∧ Same H H' ∧ (i = 0 ∨ ∃ r, findR O.rows i = some r) ∧ aboveR O.rows n = pre ++ aboveR O.rows i ∧ H' l = some (.lst (pre.map V.int)), ⟨_, n, [], rfl, rfl, s1, hn, rfl, e1⟩, ?_⟩
    rintro m σ H' ⟨i, pre, rfl, rfl, s2, hi, ea, el⟩
    walk_at "rd"
    refine ⟨rfl, ?_⟩
    by_cases h0 : i = 0
    · rw [decide_eq_true h0]
      refine iteF (k l H' n1 s2 ?_)
      rw [ea, h0, above_zero, List.append_nil]
      exact el
    · rw [decide_eq_false h0]
      obtain ⟨r, hr1⟩ := hi.resolve_left h0
      obtain ⟨e, he, rfl⟩ := OLay.ent hr1
      have W2 := W.same s2
      have ab := F.above hr1
      obtain ⟨_, u1, u2, u3⟩ := F.up hr1
      have pl : pre.length ≤ 8 := by
        have := congrArg List.length ea
        rw [List.length_append] at this
        omega
      refine iteT ⟨_, fun _ _ h => h, _, g_rows W2.top, _, rfl, _, W2.at he, _, rfl, _, g_under (W2.row e (findO_mem he).1), .inl ⟨rfl, _, SqL.of el⟩, l, _, _, rfl, rfl, el, by rw [List.length_map, sizeLine_eq]; omega, e.row.under.toNat, by omega, e.row.under, rfl, rfl, s2.over n1, F.has _ (findR_mem hr1), pre ++ [e.row.under], ?_, ?_⟩
      · rw [ea, ab, List.append_assoc]
        rfl
      · rw [upd_same, List.map_append]
        rfl
theorem all_flat (l : List Int) : (l.map V.int).all flatV = true := by
  rw [List.all_map]
  exact List.all_eq_true.mpr fun _ _ => rfl
theorem inV_int (n : Int) (l : List Int) : inV (.int n) (l.map V.int) = decide (n ∈ l) := by
  unfold inV
  rw [List.any_map]
  by_cases h : n ∈ l
  · rw [decide_eq_true h]
    exact List.any_eq_true.mpr ⟨n, h, by simp [eqV]⟩
  · rw [decide_eq_false h, List.any_eq_false]
    intro x hx z
    have e : (x == n) = true := z
    rw [beq_iff_eq] at e
    exact h (e ▸ hx)
def spBeneath (K : PySem.W.Frag) : Sp := fun vs H Q _ => ∃ (O : OLay) (n : Int), vs = [.ref O.p, .int n] ∧ OwnAt H O ∧ Wf O.rows ∧ (∀ p ∈ O.rows, (aboveR O.rows p.1).length ≤ 8) ∧ New (.lst ((sortI (beneathR O.rows n)).map V.int)) H Q
theorem beneath_ents (O : OLay) (n : Int) : O.ents.filterMap (fun e => if n ∈ aboveR O.rows e.n then some (V.int e.n) else none) = (beneathR O.rows n).map V.int := by
  unfold beneathR
  rw [filterMap_if]
  unfold OLay.rows
  rw [List.map_map, List.filter_map, List.map_map]
  rfl
abbrev N__law_beneath : List Str := ["own", "number", "one"]
theorem sc__law_beneath : FnScope N__law_beneath ["own", "number"] (defScope s__law_beneath) := ⟨rfl, rfl, rfl, by decide +kernel, rfl, by decide +kernel, by decide +kernel⟩
theorem be__law_beneath : BindEq "_law_beneath" "_law_beneath" s__law_beneath ["own", "number"] := fun _ _ _ _ _ _ us hl => match us, hl with | [_, _], _ => rfl
theorem D__law_beneath (T : Txt K mg base) : Def P w K mg base 3 (He.ga K "_law_beneath") ["own", "number"] (spBeneath K) := by
  refine mk_def T.f__law_beneath sc__law_beneath be__law_beneath (fun vs H Q E h => ?_) (fun cdv A outer s H vs Q E hr h => ?_)
  · obtain ⟨O, n, rfl, _⟩ := h
    rfl
  · obtain ⟨O, n, rfl, W, F, h8, k⟩ := h
    refine ⟨_, (pss_one (ps_ret (pe_callB cr_sortedN (by rfl) T.b_sorted (by decide +kernel) (pa_cons (pe_lock (pe_lc (own := [("one", 2)]) (g := gName 2) rfl sc__law_beneath.nd (pi_keys (pe_dg (pv 0) pe_str (by exact hu_of hr))) (blkOk_by (N := N__law_beneath) (sc := defScope s__law_beneath) (by decide +kernel)) (fun _ _ _ _ _ => by exact (pg_name (i := 2) sc__law_beneath.nd rfl (Or.inl rfl))) (fun _ _ _ _ _ => by exact (pts_one (pt_cmpR (op_in_seqK K) (pv 1) (pe_cd (D__law_above T) (by exact hr.mono (by first | decide | omega)) T.g__law_above passF (pa_cons (pv 0) (pa_cons (pv 2) pa_nil))) rfl))) (fun _ _ _ _ _ => by exact (pv 2)))) pa_nil)))), ?_⟩
    walk_at "rd"
    refine lcK (l := O.ents) oK (fun e => if n ∈ aboveR O.rows e.n then some (V.int e.n) else none) W.dic (fun H' R kp h => ?_) (by rw [sizeLine_eq]; have := W.rd.sz; omega) (fun e H' od he kp hd N1 N0 h1 h0 => ?_) (fun D H' nD s1 eD => ?_)
    · walk_at "rd"
      exact ⟨_, g_rows (kp _ _ W.pd W.rd.top), h⟩
    · walk_at "rd"
      have me : (e.n, e.row) ∈ O.rows := List.mem_map.mpr ⟨e, he, rfl⟩
      refine ⟨O, rfl, e.n, rfl, W.lock kp hd, F, .inr ⟨_, findR_of F.nk me⟩, h8 _ me, fun l H2 n2 s2 e2 => ⟨l, _, rfl, .inl (SqL.of e2), rfl, all_flat _, _, rfl, ?_⟩⟩
      rw [inV_int]
      by_cases hm : n ∈ aboveR O.rows e.n
      · rw [decide_eq_true hm]
        exact iteT (h1 _ _ s2 (if_pos hm))
      · rw [decide_eq_false hm]
        exact iteF (h0 _ s2 (if_neg hm))
    · rw [beneath_ents] at eD
      have ln : (beneathR O.rows n).length < 64 := by
        have h1 : (beneathR O.rows n).length ≤ (O.rows.map (·.1)).length := List.length_filter_le _ _
        rw [List.length_map] at h1
        unfold OLay.rows at h1
        rw [List.length_map] at h1
        have := W.rd.sz
        unfold OLay.rows
        omega
      exact ⟨D, _, rfl, SqL.of eD, ln, fun ns' hp hs p H2 n2 s2 e2 => k p H2 (s1.free n2) (s1.trans s2) (by rw [← sortI_eq hp hs]; exact e2)⟩
def spPoints (K : PySem.W.Frag) : Sp := fun vs H Q _ => ∃ (a v : Addr) (r : Row), vs = [.ref a] ∧ H a = some (.dK (rowK r v)) ∧ H v = some (.dK (votesK r.votes)) ∧ (r.votes.map (·.1)).Nodup ∧ a ≠ v ∧ r.votes.length < 99999 ∧ ∀ H', Same H H' → Q (.int (r.votes.map (·.2)).sum) H'
abbrev N__law_points : List Str := ["row", "name"]
theorem sc__law_points : FnScope N__law_points ["row"] (defScope s__law_points) := ⟨rfl, rfl, rfl, by decide +kernel, rfl, by decide +kernel, by decide +kernel⟩
theorem be__law_points : BindEq "_law_points" "_law_points" s__law_points ["row"] := fun _ _ _ _ _ _ us hl => match us, hl with | [_], _ => rfl
theorem D__law_points (T : Txt K mg base) : Def P w K mg base 1 (He.ga K "_law_points") ["row"] (spPoints K) := by
  refine mk_def T.f__law_points sc__law_points be__law_points (fun vs H Q E h => ?_) (fun cdv A outer s H vs Q E hr h => ?_)
  · obtain ⟨a, v, r, rfl, _⟩ := h
    rfl
  · obtain ⟨a, v, r, rfl, ha, hv, nd, nav, sz, k⟩ := h
    refine ⟨_, (pss_one (ps_ret (pe_callB (cr_sum rfl) (by rfl) T.b_sum (by decide +kernel) (pa_cons (pe_lock (pe_lc (own := [("name", 1)]) (g := gName 1) rfl sc__law_points.nd (pi_keys (pe_dg (pv 0) pe_str (by exact hu_of hr))) (blkOk_by (N := N__law_points) (sc := defScope s__law_points) (by decide +kernel)) (fun _ _ _ _ _ => by exact (pg_name (i := 1) sc__law_points.nd rfl (Or.inl rfl))) (fun _ _ _ _ _ => pts_nil) (fun _ _ _ _ _ => by exact (pe_dg (pe_dg (pv 0) pe_str (by exact hu_of hr)) (pv 1) (by exact hu_of hr))))) pa_nil)))), ?_⟩
    walk_at "rd"
    refine lcK (l := r.votes) voteK (fun p => some (.int p.2)) hv (fun H' R kp h => ?_) (by rw [sizeLine_eq]; omega) (fun e H' od he kp hd N1 N0 h1 h0 => ?_) (fun D H' nD s1 eD => ?_)
    · walk_at "rd"
      exact ⟨_, g_votes (kp _ _ nav ha), h⟩
    · walk_at "rd"
      exact ⟨_, g_votes (kp _ _ nav ha), _, rfl, _, .inl ⟨_, Sum.inr e.1, .inr ⟨od, hd⟩, rfl, (votes_at nd he).symm⟩, h1 _ _ (Same.refl _) rfl⟩
    · have el : r.votes.filterMap (fun p => some (V.int p.2)) = (r.votes.map (·.2)).map V.int := by
        rw [List.filterMap_eq_map', List.map_map]
        rfl
      rw [el] at eD
      exact ⟨D, _, rfl, SqL.of eD, k H' s1⟩
end
end Vw
namespace Vw
open PySem PySem.Spec PyProof.Rows L2
local macro_rules | `(tactic| walk_at "rd") => `(tactic| simp only [tSeq, tNext, tIfS, tAsg, tRet, tRetN, tDrop, tVar, tC, tOp, tUn, tTest, tB, tAnd, tOr, tNot, tAndV, tOrV, tNotV, tIf, tChain, tCB, tCons, tNil, tCall, tMeth, tMake, tFld, sFld, tTup, tLst, tTupS, tLstS, tDNewKS, tDNewTS, tTold, tCmp, t2I, tIsN, tNotN, tPar, gName, gNil, gCons, gTup, gSub, rI0, rU, rEq, rNe, tDGet, tDIn, tDNotIn, sDPut, tDNewK, tDGet1, tDGet2, tDPop1, tDPop2, tBM, tBM0, tM0, tM1, tSl, tPart, tNoPart, tBreak, tCont, tThru, L2.start, List.map_cons, List.map_nil, List.length_cons, List.length_nil, List.cons_append, List.nil_append, List.append_nil, List.replicate_succ, List.replicate_zero, Nat.reduceAdd, Nat.reduceSub, Nat.zero_add, List.getElem?_cons_zero, List.getElem?_cons_succ, List.set_cons_zero, List.set_cons_succ, wipe, cxOf_K, tYes, List.cons.injEq, and_self, Option.some.injEq, V.int.injEq, V.bl.injEq, V.ref.injEq, V.str.injEq, exists_eq_left', exists_eq_left, exists_and_left, and_assoc, true_and, and_true, if_true, if_false, ite_true, ite_false, Bool.not_true, Bool.not_false, Bool.false_eq_true, reduceIte])
/-! ### the own wood is changed -/
structure OStep (H : Hp) (O : OLay) (H' : Hp) (O' : OLay) : Prop where
  p : O'.p = O.p
  keep : ∀ b o, b ∉ footO O → H b = some o → H' b = some o
  new : ∀ b ∈ footO O', b ∈ footO O ∨ H b = none
theorem OStep.same {H H' : Hp} {O : OLay} (s : Same H H') : OStep H O H' O := ⟨rfl, fun b o _ e => s b o e, fun b hb => .inl hb⟩
theorem OStep.trans {H H1 H2 : Hp} {O O1 O2 : OLay} (a : OStep H O H1 O1) (b : OStep H1 O1 H2 O2) : OStep H O H2 O2 := by
  refine ⟨b.p.trans a.p, fun c o hc e => b.keep c o (fun h => ?_) (a.keep c o hc e), fun c hc => ?_⟩
  · rcases a.new c h with z | z
    · exact hc z
    · rw [z] at e
      cases e
  · rcases b.new c hc with z | z
    · exact a.new c z
    · by_cases h : c ∈ footO O
      · exact .inl h
      · right
        cases q : H c with
        | none => rfl
        | some o =>
          have := a.keep c o h q
          rw [z] at this
          cases this
def setO (es : List OEnt) (n : Int) (r : Row) : List OEnt := es.map fun e => if e.n = n then { e with row := r } else e
theorem setO_map {β : Type} (f : OEnt → β) (hf : ∀ e r, f { e with row := r } = f e) (es : List OEnt) (n : Int) (r : Row) : (setO es n r).map f = es.map f := by
  unfold setO
  rw [List.map_map]
  refine List.map_congr_left fun e _ => ?_
  show f (if e.n = n then { e with row := r } else e) = f e
  split
  · exact hf e r
  · rfl
theorem mem_setO {es : List OEnt} {n : Int} {r : Row} {e : OEnt} (h : e ∈ setO es n r) : ∃ e0 ∈ es, e.a = e0.a ∧ e.v = e0.v ∧ e.n = e0.n ∧ ((e0.n = n ∧ e.row = r) ∨ (e0.n ≠ n ∧ e = e0)) := by
  obtain ⟨e0, h0, rfl⟩ := List.mem_map.mp h
  refine ⟨e0, h0, ?_⟩
  by_cases c : e0.n = n
  · simp [c]
  · simp [c]
theorem footO_set (O : OLay) (n : Int) (r : Row) : footO { O with ents := setO O.ents n r } = footO O := by
  unfold footO
  show O.p :: O.d :: ((setO O.ents n r).map (·.a) ++ (setO O.ents n r).map (·.v)) = _
  rw [setO_map _ (fun _ _ => rfl), setO_map _ (fun _ _ => rfl)]
theorem rows_setO (O : OLay) (n : Int) (r : Row) : ({ O with ents := setO O.ents n r } : OLay).rows = setR O.rows n r := by
  unfold OLay.rows setO setR
  rw [List.map_map, List.map_map]
  refine List.map_congr_left fun e _ => ?_
  show ((if e.n = n then { e with row := r } else e).n, (if e.n = n then { e with row := r } else e).row) = if e.n = n then (n, r) else (e.n, e.row)
  by_cases c : e.n = n
  · rw [if_pos c, if_pos c, ← c]
  · rw [if_neg c, if_neg c]
/-- a row is another one: its dict and its votes may be written -/
theorem OwnAt.set {H H' : Hp} {O : OLay} (W : OwnAt H O) {e : OEnt} (he : e ∈ O.ents) {r : Row} (h1 : H' e.a = some (.dK (rowK r e.v))) (h2 : H' e.v = some (.dK (votesK r.votes))) (nd : (r.votes.map (·.1)).Nodup) (sz : r.votes.length < 99999)
    (k : ∀ b o, b ≠ e.a → b ≠ e.v → H b = some o → H' b = some o) : OwnAt H' { O with ents := setO O.ents e.n r } := by
  have hda := W.da e he
  have d' : H' O.d = some (.dK ((setO O.ents e.n r).map oK)) := by
    rw [setO_map oK (fun _ _ => rfl)]
    exact k _ _ hda.1.symm hda.2.1.symm W.dic
  have two : ∀ e' ∈ setO O.ents e.n r, H' e'.a = some (.dK (rowK e'.row e'.v)) ∧ H' e'.v = some (.dK (votesK e'.row.votes)) ∧ (e'.row.votes.map (·.1)).Nodup ∧ e'.row.votes.length < 99999 := fun e' h' => by
    obtain ⟨e0, h0, ha, hv, hn, h⟩ := mem_setO h'
    rcases h with ⟨hn0, hr⟩ | ⟨hn0, rfl⟩
    · have : e0 = e := inj_nodup W.rd.nk h0 he hn0
      subst this
      rw [ha, hv, hr]
      exact ⟨h1, h2, nd, sz⟩
    · have na : e'.a ≠ e.a := fun z => hn0 (congrArg OEnt.n (inj_nodup W.nda h0 he z))
      have nv : e'.v ≠ e.v := fun z => hn0 (congrArg OEnt.n (inj_nodup W.ndv h0 he z))
      exact ⟨k _ _ na (W.av e' h0 e he) (W.rd.row e' h0), k _ _ (fun z => W.av e he e' h0 z.symm) nv (W.rd.vot e' h0), W.rd.ndv e' h0, W.rd.vsz e' h0⟩
  refine ⟨⟨k _ _ hda.2.2.1.symm hda.2.2.2.symm W.rd.top, .inl d', fun e' h' => (two e' h').1, fun e' h' => (two e' h').2.1, ?_, fun e' h' => (two e' h').2.2.1, ?_, fun e' h' => (two e' h').2.2.2⟩, d', by rw [footO_set]; exact W.nd⟩
  · show ((setO O.ents e.n r).map (·.n)).Nodup
    rw [setO_map _ (fun _ _ => rfl)]
    exact W.rd.nk
  · show (setO O.ents e.n r).length < 64
    unfold setO
    rw [List.length_map]
    exact W.rd.sz
theorem OStep.set {H H' : Hp} {O : OLay} {e : OEnt} (he : e ∈ O.ents) {r : Row} (k : ∀ b o, b ≠ e.a → b ≠ e.v → H b = some o → H' b = some o) : OStep H O H' { O with ents := setO O.ents e.n r } :=
  ⟨rfl, fun b o hb q => k b o (fun z => hb (z ▸ List.mem_cons_of_mem _ (List.mem_cons_of_mem _ (mem_foO_a he)))) (fun z => hb (z ▸ List.mem_cons_of_mem _ (List.mem_cons_of_mem _ (mem_foO_v he)))) q, fun b hb => .inl (by rw [footO_set] at hb; exact hb)⟩
/-- the last number, the time -/
theorem OwnAt.top {H H' : Hp} {O : OLay} (W : OwnAt H O) {c k : Int} (h : H' O.p = some (.dK (ownK O.d c k))) (kp : ∀ b o, b ≠ O.p → H b = some o → H' b = some o) : OwnAt H' { O with came := c, clock := k } :=
  ⟨⟨h, .inl (kp _ _ W.pd.symm W.dic), fun e he => kp _ _ (W.da e he).2.2.1 (W.rd.row e he), fun e he => kp _ _ (W.da e he).2.2.2 (W.rd.vot e he), W.rd.nk, W.rd.ndv, W.rd.sz, W.rd.vsz⟩, kp _ _ W.pd.symm W.dic, W.nd⟩
theorem OStep.top {H H' : Hp} {O : OLay} {c k : Int} (kp : ∀ b o, b ≠ O.p → H b = some o → H' b = some o) : OStep H O H' { O with came := c, clock := k } :=
  ⟨rfl, fun b o hb e => kp b o (fun z => hb (z ▸ List.mem_cons_self)) e, fun b hb => .inl hb⟩
/-- one entry goes -/
theorem OwnAt.pop {H H' : Hp} {O : OLay} (W : OwnAt H O) (n : Int) (h : H' O.d = some (.dK (dropK (O.ents.map oK) (Sum.inl n)))) (kp : ∀ b o, b ≠ O.d → H b = some o → H' b = some o) : OwnAt H' { O with ents := O.ents.filter fun e => decide (e.n ≠ n) } := by
  have sub : (O.ents.filter fun e => decide (e.n ≠ n)).Sublist O.ents := List.filter_sublist
  have hd : H' O.d = some (.dK ((O.ents.filter fun e => decide (e.n ≠ n)).map oK)) := by
    rw [h]
    unfold dropK
    rw [List.filter_map]
    have e : ((fun kv : Key × V => decide (kv.1 ≠ Sum.inl n)) ∘ oK) = fun e : OEnt => decide (e.n ≠ n) := by
      funext e
      show decide ((Sum.inl e.n : Key) ≠ Sum.inl n) = decide (e.n ≠ n)
      by_cases c : e.n = n
      · simp [c]
      · simp [c]
    rw [e]
  exact ⟨⟨kp _ _ W.pd W.rd.top, .inl hd, fun e he => kp _ _ (W.da e (sub.mem he)).1 (W.rd.row e (sub.mem he)), fun e he => kp _ _ (W.da e (sub.mem he)).2.1 (W.rd.vot e (sub.mem he)), W.rd.nk.sublist (sub.map _), fun e he => W.rd.ndv e (sub.mem he), Nat.lt_of_le_of_lt sub.length_le W.rd.sz, fun e he => W.rd.vsz e (sub.mem he)⟩, hd,
    W.nd.sublist (List.Sublist.cons₂ _ (List.Sublist.cons₂ _ ((sub.map _).append (sub.map _))))⟩
theorem OStep.pop {H H' : Hp} {O : OLay} (n : Int) (kp : ∀ b o, b ≠ O.d → H b = some o → H' b = some o) : OStep H O H' { O with ents := O.ents.filter fun e => decide (e.n ≠ n) } := by
  have sub : (O.ents.filter fun e => decide (e.n ≠ n)).Sublist O.ents := List.filter_sublist
  exact ⟨rfl, fun b o hb e => kp b o (fun z => hb (z ▸ List.mem_cons_of_mem _ List.mem_cons_self)) e, fun b hb => .inl ((List.Sublist.cons₂ _ (List.Sublist.cons₂ _ ((sub.map _).append (sub.map _)))).mem hb)⟩
theorem rows_pop (O : OLay) (n : Int) : ({ O with ents := O.ents.filter fun e => decide (e.n ≠ n) } : OLay).rows = dropR O.rows n := by
  unfold OLay.rows dropR
  rw [List.filter_map]
  rfl
/-- one more -/
theorem OwnAt.put {H H' : Hp} {O : OLay} (W : OwnAt H O) {n : Int} {a v : Addr} {r : Row} (ha : H a = none) (hv : H v = none) (nav : a ≠ v) (hn : ∀ e ∈ O.ents, e.n ≠ n) (h1 : H' a = some (.dK (rowK r v))) (h2 : H' v = some (.dK (votesK r.votes))) (nd : (r.votes.map (·.1)).Nodup) (vz : r.votes.length < 99999)
    (kp : ∀ b o, b ≠ O.d → H b = some o → H' b = some o) (hd : H' O.d = some (.dK (O.ents.map oK ++ [oK ⟨n, r, a, v⟩]))) (sz : O.ents.length + 1 < 64) : OwnAt H' { O with ents := O.ents ++ [⟨n, r, a, v⟩] } := by
  have hd' : H' O.d = some (.dK ((O.ents ++ [(⟨n, r, a, v⟩ : OEnt)]).map oK)) := by
    rw [List.map_append]
    exact hd
  have two : ∀ e ∈ O.ents ++ [(⟨n, r, a, v⟩ : OEnt)], H' e.a = some (.dK (rowK e.row e.v)) ∧ H' e.v = some (.dK (votesK e.row.votes)) ∧ (e.row.votes.map (·.1)).Nodup ∧ e.row.votes.length < 99999 := fun e he => by
    rcases List.mem_append.mp he with he | he
    · exact ⟨kp _ _ (W.da e he).1 (W.rd.row e he), kp _ _ (W.da e he).2.1 (W.rd.vot e he), W.rd.ndv e he, W.rd.vsz e he⟩
    · cases List.mem_singleton.mp he
      exact ⟨h1, h2, nd, vz⟩
  have live : ∀ b ∈ footO O, ∃ o, H b = some o := fun b hb => by
    have q : b = O.p ∨ b = O.d ∨ b ∈ O.ents.map (·.a) ∨ b ∈ O.ents.map (·.v) := by
      unfold footO at hb
      simpa only [List.mem_cons, List.mem_append] using hb
    rcases q with rfl | rfl | q | q
    · exact ⟨_, W.rd.top⟩
    · exact ⟨_, W.dic⟩
    · obtain ⟨e, he, rfl⟩ := List.mem_map.mp q
      exact ⟨_, W.rd.row e he⟩
    · obtain ⟨e, he, rfl⟩ := List.mem_map.mp q
      exact ⟨_, W.rd.vot e he⟩
  have no : ∀ {x : Addr}, H x = none → x ∉ footO O := fun {x} hx hm => by
    obtain ⟨o, ho⟩ := live x hm
    rw [hx] at ho
    cases ho
  refine ⟨⟨kp _ _ W.pd W.rd.top, .inl hd', fun e he => (two e he).1, fun e he => (two e he).2.1, ?_, fun e he => (two e he).2.2.1, ?_, fun e he => (two e he).2.2.2⟩, hd', ?_⟩
  · show ((O.ents ++ [(⟨n, r, a, v⟩ : OEnt)]).map (·.n)).Nodup
    rw [List.map_append]
    refine nd_snoc W.rd.nk fun m => ?_
    obtain ⟨e, he, q⟩ := List.mem_map.mp m
    exact hn e he q
  · show (O.ents ++ [_]).length < 64
    rw [List.length_append]
    exact sz
  · have perm : (footO { O with ents := O.ents ++ [⟨n, r, a, v⟩] }).Perm (a :: v :: footO O) := by
      unfold footO
      show (O.p :: O.d :: ((O.ents ++ [(⟨n, r, a, v⟩ : OEnt)]).map (·.a) ++ (O.ents ++ [(⟨n, r, a, v⟩ : OEnt)]).map (·.v))).Perm _
      rw [List.map_append, List.map_append]
      show (O.p :: O.d :: ((O.ents.map (·.a) ++ [a]) ++ (O.ents.map (·.v) ++ [v]))).Perm _
      have p1 : ((O.ents.map (·.a) ++ [a]) ++ (O.ents.map (·.v) ++ [v])).Perm (a :: v :: (O.ents.map (·.a) ++ O.ents.map (·.v))) := by
        have q1 : (O.ents.map (·.a) ++ [a]).Perm (a :: O.ents.map (·.a)) := List.perm_append_singleton _ _
        have q2 : (O.ents.map (·.v) ++ [v]).Perm (v :: O.ents.map (·.v)) := List.perm_append_singleton _ _
        refine (q1.append q2).trans ?_
        exact (List.perm_middle (l₁ := O.ents.map (·.a))).cons a
      refine ((p1.cons O.d).cons O.p).trans ?_
      have s1 : (O.p :: O.d :: a :: v :: (O.ents.map (·.a) ++ O.ents.map (·.v))).Perm (a :: O.p :: O.d :: v :: (O.ents.map (·.a) ++ O.ents.map (·.v))) := ((List.Perm.swap a O.d _).cons O.p).trans (List.Perm.swap a O.p _)
      refine s1.trans (List.Perm.cons a ?_)
      exact ((List.Perm.swap v O.d _).cons O.p).trans (List.Perm.swap v O.p _)
    refine perm.nodup_iff.mpr (List.nodup_cons.mpr ⟨fun m => ?_, List.nodup_cons.mpr ⟨no hv, W.nd⟩⟩)
    rcases List.mem_cons.mp m with z | z
    · exact nav z
    · exact no ha z
theorem OStep.put {H H' : Hp} {O : OLay} {n : Int} {a v : Addr} {r : Row} (ha : H a = none) (hv : H v = none) (kp : ∀ b o, b ≠ O.d → H b = some o → H' b = some o) : OStep H O H' { O with ents := O.ents ++ [⟨n, r, a, v⟩] } := by
  refine ⟨rfl, fun b o hb e => kp b o (fun z => hb (z ▸ List.mem_cons_of_mem _ List.mem_cons_self)) e, fun b hb => ?_⟩
  have hb : b ∈ O.p :: O.d :: ((O.ents ++ [(⟨n, r, a, v⟩ : OEnt)]).map (·.a) ++ (O.ents ++ [(⟨n, r, a, v⟩ : OEnt)]).map (·.v)) := hb
  simp only [List.mem_cons, List.mem_append, List.map_append, List.map_cons, List.map_nil, List.not_mem_nil, or_false] at hb
  rcases hb with rfl | rfl | (h | rfl) | (h | rfl)
  · exact .inl List.mem_cons_self
  · exact .inl (List.mem_cons_of_mem _ List.mem_cons_self)
  · exact .inl (List.mem_cons_of_mem _ (List.mem_cons_of_mem _ (List.mem_append_left _ h)))
  · exact .inr ha
  · exact .inl (List.mem_cons_of_mem _ (List.mem_cons_of_mem _ (List.mem_append_right _ h)))
  · exact .inr hv
end Vw
namespace Vw
open PySem PySem.Spec PyProof.Rows L2
local macro_rules | `(tactic| walk_at "rd") => `(tactic| simp only [tSeq, tNext, tIfS, tAsg, tRet, tRetN, tDrop, tVar, tC, tOp, tUn, tTest, tB, tAnd, tOr, tNot, tAndV, tOrV, tNotV, tIf, tChain, tCB, tCons, tNil, tCall, tMeth, tMake, tFld, sFld, tTup, tLst, tTupS, tLstS, tDNewKS, tDNewTS, tTold, tCmp, t2I, tIsN, tNotN, tPar, gName, gNil, gCons, gTup, gSub, rI0, rU, rEq, rNe, tDGet, tDIn, tDNotIn, sDPut, tDNewK, tDGet1, tDGet2, tDPop1, tDPop2, tBM, tBM0, tM0, tM1, tSl, tPart, tNoPart, tBreak, tCont, tThru, L2.start, List.map_cons, List.map_nil, List.length_cons, List.length_nil, List.cons_append, List.nil_append, List.append_nil, List.replicate_succ, List.replicate_zero, Nat.reduceAdd, Nat.reduceSub, Nat.zero_add, List.getElem?_cons_zero, List.getElem?_cons_succ, List.set_cons_zero, List.set_cons_succ, wipe, cxOf_K, tYes, List.cons.injEq, and_self, Option.some.injEq, V.int.injEq, V.bl.injEq, V.ref.injEq, V.str.injEq, exists_eq_left', exists_eq_left, exists_and_left, and_assoc, true_and, and_true, if_true, if_false, ite_true, ite_false, Bool.not_true, Bool.not_false, Bool.false_eq_true, reduceIte])
theorem underG {M : Wd} (G : Good M) (n : Int) : underOk M (.int n) = true ↔ n = 0 ∨ ∃ r, findR M.rows n = some r := by
  show (decide (n = 0) || (decide (1 ≤ n) && decide (n ≤ M.came) && (findR M.rows n).isSome)) = true ↔ _
  constructor
  · intro h
    simp only [Bool.or_eq_true, Bool.and_eq_true, decide_eq_true_eq, Option.isSome_iff_exists] at h
    rcases h with h | ⟨_, h⟩
    · exact .inl h
    · exact .inr h
  · intro h
    simp only [Bool.or_eq_true, Bool.and_eq_true, decide_eq_true_eq, Option.isSome_iff_exists]
    rcases h with h | ⟨r, h⟩
    · exact .inl h
    · have m := findR_mem h
      have h1 := G.wf.pos _ m
      have h2 := G.le _ m
      exact .inr ⟨⟨h1, h2⟩, r, h⟩
theorem put_came (d : Addr) (c k z : Int) : putK (ownK d c k) (Sum.inr "came") (.int z) = ownK d z k := by simp [ownK, putK, ofString_inj]
theorem put_clock (d : Addr) (c k z : Int) : putK (ownK d c k) (Sum.inr "clock") (.int z) = ownK d c z := by simp [ownK, putK, ofString_inj]
theorem put_new {es : List OEnt} {n : Int} {r : Row} {a v : Addr} (h : ∀ e ∈ es, e.n ≠ n) : putK (es.map oK) (Sum.inl n) (.ref a) = es.map oK ++ [oK ⟨n, r, a, v⟩] := by
  unfold putK
  rw [if_neg]
  · rfl
  · intro z
    obtain ⟨kv, hm, e⟩ := List.any_eq_true.mp z
    obtain ⟨e0, he, rfl⟩ := List.mem_map.mp hm
    have e : (oK e0).1 = Sum.inl n := by simpa using e
    exact h e0 he (Sum.inl.inj e)
theorem merge_row (who text : Str) (n t : Int) (v : Addr) : mergeK [] (rowK ⟨who, n, text, t, [], false⟩ v) = rowK ⟨who, n, text, t, [], false⟩ v := by simp [mergeK, rowK, putK, ofString_inj]
theorem New.refu {x : Str} {H : Hp} {Q : VK} (r : Refu x H Q) : New (.tup [.str "refused", .str x]) H Q := fun p H' n s e => r p H' n s e
theorem Refu.mono {x : Str} {H H1 : Hp} {Q : VK} (r : Refu x H Q) (s : Same H H1) : Refu x H1 Q := fun p H' n s' e => r p H' (s.free n) (s.trans s') e
section
variable {P : Program} {w : World} {K : PySem.W.Frag} {mg : Str → Option Value} {base : Heap}
def spOSay (K : PySem.W.Frag) : Sp := fun vs H Q _ => ∃ (O : OLay) (who : Str) (n : Int) (text : Str), vs = [.ref O.p, .str who, .int n, .str text] ∧ OwnAt H O ∧ Good O.wd ∧ nameZ who = true ∧ textZ text = true ∧
  (∀ k M, sayM O.wd (.str who) (.int n) (.str text) = .ok (k, M) → ∀ H' O', OwnAt H' O' → O'.wd = M → OStep H O H' O' → Q (.int k) H') ∧ (∀ e, sayM O.wd (.str who) (.int n) (.str text) = .error e → Refu e.cls H Q)
abbrev N__law_say : List Str := ["own", "by", "under", "text", "row"]
theorem sc__law_say : FnScope N__law_say ["own", "by", "under", "text"] (defScope s__law_say) := ⟨rfl, rfl, rfl, by decide +kernel, rfl, by decide +kernel, by decide +kernel⟩
theorem be__law_say : BindEq "_law_say" "_law_say" s__law_say ["own", "by", "under", "text"] := fun _ _ _ _ _ _ us hl => match us, hl with | [_, _, _, _], _ => rfl
theorem D__law_say (T : Txt K mg base) : Def P w K mg base 3 (He.ga K "_law_say") ["own", "by", "under", "text"] (spOSay K) := by
  refine mk_def T.f__law_say sc__law_say be__law_say (fun vs H Q E h => ?_) (fun cdv A outer s H vs Q E hr h => ?_)
  · obtain ⟨O, who, n, text, rfl, _⟩ := h
    rfl
  · obtain ⟨O, who, n, text, rfl, W, G, hw, ht, k1, k0⟩ := h
    refine ⟨_, (C8.pss_cut (ps_if (PW.pt (pw_and (pt_cmpR op_ne (pv 2) pe_int (nomark _)) (pw_and1 (pt_cmp (pc_dni (pv 2) (pe_dg (pv 0) pe_str (by exact hu_of hr)) (by exact hu_of hr)))))) (pss_one (ps_ret (pe_tupS (pa_cons pe_str (pa_cons pe_str pa_nil))))) pss_nil)
      (C8.pss_cut (ps_if (PW.pt (pw_or (pt_cmpR op_eq (pe_callB call_lenD (by rfl) T.b_len (by decide +kernel) (pa_cons (pe_dg (pv 0) pe_str (by exact hu_of hr)) pa_nil)) pe_int (nomark _)) (pw_or1 (PW.pt (pw_and (pt_cmpR op_ne (pv 2) pe_int (nomark _)) (pw_and1 (pt_cmpR op_eq (pe_callB call_len_seq (by rfl) T.b_len (by decide +kernel) (pa_cons (pe_cd (D__law_above T) (by exact hr.mono (by first | decide | omega)) T.g__law_above passE (pa_cons (pv 0) (pa_cons (pv 2) pa_nil))) pa_nil)) pe_int (nomark _)))))))) (pss_one (ps_ret (pe_tupS (pa_cons pe_str (pa_cons pe_str pa_nil))))) pss_nil)
      (pss_cons (ps_dp (pv 0) pe_str (pe_op op_add (pe_dg (pv 0) pe_str (by exact hu_of hr)) pe_int) (by exact hu_of hr))
      (pss_cons (ps_set (i := 4) sc__law_say.nd rfl (Or.inl rfl) (pe_disp (pps_cons pe_str (pv 1) (pps_cons pe_str (pv 2) (pps_cons pe_str (pv 3) (pps_cons pe_str (pe_dg (pv 0) pe_str (by exact hu_of hr)) (pps_cons pe_str pe_dnewKS pps_nil))))) (by rfl) (by rfl) (fun z => by cases z) (by decide)))
      (pss_cons (ps_dp (pe_dg (pv 0) pe_str (by exact hu_of hr)) (pe_dg (pv 0) pe_str (by exact hu_of hr)) (pv 4) (by exact hu_of hr))
      (pss_one (ps_ret (pe_dg (pv 0) pe_str (by exact hu_of hr))))))))), ?_⟩
    walk_at "rd"
    have z2 : (2 : Nat) ≤ sizeLine := by rw [sizeLine_eq]; omega
    have ems : sayM O.wd (.str who) (.int n) (.str text) = if underOk O.wd (.int n) = false then .error .no else if 60 ≤ O.rows.length ∨ (n ≠ 0 ∧ 8 ≤ deepI O.rows n + 1) then .error .full else .ok (O.came + 1, ⟨O.rows ++ [(O.came + 1, ⟨who, n, text, O.clock, [], false⟩)], O.came + 1, O.clock⟩) := by
      unfold sayM
      rw [if_neg (show ¬ nameOk (.str who) = false by show ¬ nameZ who = false; rw [hw]; decide), if_neg (show ¬ textOk (.str text) = false by show ¬ textZ text = false; rw [ht]; decide)]
      rfl
    rw [ems] at k1 k0
    refine ⟨fun σ' H' => H' = H ∧ σ' = [some (.ref O.p), some (.str who), some (.int n), some (.str text), none] ∧ underOk O.wd (.int n) = true, ?_, ?_⟩
    · walk_at "rd"
      refine ⟨rfl, ?_⟩
      by_cases h0 : n = 0
      · rw [decide_eq_true h0]
        exact iteF ((underG G n).mpr (.inl h0))
      · rw [decide_eq_false h0]
        refine iteT ⟨_, g_rows W.rd.top, _, rfl, _, .inl ⟨_, Sum.inl n, .inl W.dic, rfl, rfl⟩, ?_⟩
        rw [valV_oK]
        cases q : findO O.ents n with
        | none =>
          have hu : underOk O.wd (.int n) = false := by
            cases c : underOk O.wd (.int n) with
            | false => rfl
            | true =>
              rcases (underG G n).mp c with z | ⟨r, z⟩
              · exact absurd z h0
              · obtain ⟨e, he, _⟩ := OLay.ent (O := O) z
                rw [he] at q
                cases q
          exact iteT ⟨z2, New.refu (k0 .no (by rw [if_pos hu]))⟩
        | some e => exact iteF ((underG G n).mpr (.inr ⟨e.row, by show findR O.rows n = _; rw [O.find, q]; rfl⟩))
    · rintro σ' H' ⟨rfl, rfl, hu⟩
      rw [if_neg (by rw [hu]; decide)] at k0 k1
      have ln : (O.ents.map oK).length = O.rows.length := by unfold OLay.rows; rw [List.length_map, List.length_map]
      have l60 : O.rows.length ≤ 60 := G.len
      refine ⟨fun σ' H1 => Same H' H1 ∧ σ' = [some (.ref O.p), some (.str who), some (.int n), some (.str text), none] ∧ ¬ (60 ≤ O.rows.length ∨ (n ≠ 0 ∧ 8 ≤ deepI O.rows n + 1)), ?_, ?_⟩
      · walk_at "rd"
        refine ⟨_, g_rows W.rd.top, _, rfl, _, W.dic, rfl, ?_⟩
        rw [ln]
        by_cases hf : O.rows.length = 60
        · rw [decide_eq_true (by omega)]
          exact iteT ⟨z2, New.refu (k0 .full (by rw [if_pos (.inl (by omega))]))⟩
        · rw [decide_eq_false (by omega)]
          refine iteF ⟨rfl, ?_⟩
          by_cases h0 : n = 0
          · rw [decide_eq_true h0]
            exact iteF ⟨Same.refl _, fun z => z.elim (by omega) fun z => z.1 h0⟩
          · rw [decide_eq_false h0]
            have hx := (underG G n).mp hu
            obtain ⟨r, hr1⟩ := hx.resolve_left h0
            have d8 : (aboveR O.rows n).length ≤ 8 := G.dp0 hx
            have d1 : 1 ≤ (aboveR O.rows n).length := by
              rw [show aboveR O.rows n = _ from G.wf.above hr1]
              simp
            refine iteT ⟨O, n, rfl, W.rd, G.wf, hx, d8, fun l H2 n2 s2 e2 => ⟨_, rfl, _, .inl (SqL.of e2), rfl, ?_⟩⟩
            rw [List.length_map]
            by_cases h8 : (aboveR O.rows n).length = 8
            · rw [decide_eq_true (by omega)]
              exact iteT ⟨z2, New.refu ((k0 .full (by rw [if_pos (.inr ⟨h0, by unfold deepI; omega⟩)])).mono s2)⟩
            · rw [decide_eq_false (by omega)]
              exact iteF ⟨s2, fun z => z.elim (by omega) fun z => by have := z.2; unfold deepI at this; omega⟩
      · rintro σ' H1 ⟨s1, rfl, hf⟩
        rw [if_neg hf] at k0 k1
        simp only [tSeq, tAsg]
        walk_at "rd"
        have W1 := W.same s1
        have lt1 : (5 : Nat) < sizeLine := by rw [sizeLine_eq]; omega
        refine ⟨_, g_came W1.rd.top, _, rfl, _, DPut.k (k := Sum.inr "came") W1.rd.top (by show 3 < sizeLine; omega), ?_⟩
        rw [put_came]
        have kp1 : ∀ b o, b ≠ O.p → H1 b = some o → upd H1 O.p (.dK (ownK O.d (O.came + 1) O.clock)) b = some o := fun b o hb e => by rw [upd_ne hb]; exact e
        have W2 : OwnAt (upd H1 O.p (.dK (ownK O.d (O.came + 1) O.clock))) { O with came := O.came + 1, clock := O.clock } := W1.top upd_same kp1
        have st2 : OStep H1 O (upd H1 O.p (.dK (ownK O.d (O.came + 1) O.clock))) { O with came := O.came + 1, clock := O.clock } := OStep.top kp1
        generalize upd H1 O.p (.dK (ownK O.d (O.came + 1) O.clock)) = H2 at W2 st2 ⊢
        intro p np
        simp only [tPairs]
        walk_at "rd"
        have npp : O.p ≠ p := ne_of_none W2.rd.top np
        have npd : O.d ≠ p := ne_of_none W2.dic np
        have s23 : Same H2 (upd H2 p (.dK [])) := Same.new np
        refine ⟨_, g_clock (O := { O with came := O.came + 1, clock := O.clock }) (s23 _ _ W2.rd.top), fun v H3 nv s3 e3 => ⟨s3 _ _ upd_same, rowK ⟨who, n, text, O.clock, [], false⟩ v, rfl, by show 5 ≤ 15; decide, ?_⟩⟩
        rw [merge_row]
        have nvp : p ≠ v := fun z => by
          rw [← z, upd_same] at nv
          cases nv
        have nv2 : H2 v = none := s23.free nv
        have nvd : O.d ≠ v := ne_of_none W2.dic nv2
        have k4 : ∀ b o, H2 b = some o → upd H3 p (.dK (rowK ⟨who, n, text, O.clock, [], false⟩ v)) b = some o := fun b o e => by
          rw [upd_ne (ne_of_none e np)]
          exact s3 _ _ (s23 _ _ e)
        have t4 := k4 _ _ W2.rd.top
        have d4 := k4 _ _ W2.dic
        have fresh : ∀ e ∈ O.ents, e.n ≠ O.came + 1 := fun e he => by
          have : (e.n, e.row) ∈ O.rows := List.mem_map.mpr ⟨e, he, rfl⟩
          have := G.le _ this
          have : e.n ≤ O.came := this
          omega
        have lz : O.ents.length + 1 < 64 := by
          have : O.ents.length = O.rows.length := by unfold OLay.rows; rw [List.length_map]
          omega
        refine ⟨_, g_rows (O := { O with came := O.came + 1, clock := O.clock }) t4, _, g_came (O := { O with came := O.came + 1, clock := O.clock }) t4, _, rfl, _, DPut.k (k := Sum.inl (O.came + 1)) d4 (by rw [List.length_map, sizeLine_eq]; show O.ents.length < _; omega), ?_⟩
        rw [put_new fresh]
        have kp5 : ∀ b o, b ≠ O.d → H2 b = some o → upd (upd H3 p (.dK (rowK ⟨who, n, text, O.clock, [], false⟩ v))) O.d (.dK (O.ents.map oK ++ [oK ⟨O.came + 1, ⟨who, n, text, O.clock, [], false⟩, p, v⟩])) b = some o := fun b o hb e => by
          rw [upd_ne hb]
          exact k4 b o e
        have W5 := W2.put (n := O.came + 1) (a := p) (v := v) (r := ⟨who, n, text, O.clock, [], false⟩) np nv2 nvp fresh (by rw [upd_ne npd.symm, upd_same]) (by rw [upd_ne nvd.symm, upd_ne nvp.symm]; exact e3) List.Pairwise.nil (by show 0 < 99999; decide) kp5 upd_same lz
        have st5 := OStep.put (O := { O with came := O.came + 1, clock := O.clock }) (n := O.came + 1) (r := ⟨who, n, text, O.clock, [], false⟩) np nv2 kp5
        refine ⟨_, g_came (O := { O with came := O.came + 1, clock := O.clock }) (kp5 _ _ W2.pd W2.rd.top), k1 _ _ rfl _ _ W5 ?_ (((OStep.same s1).trans st2).trans st5)⟩
        unfold OLay.wd OLay.rows
        rw [List.map_append]
        rfl
end
end Vw
namespace Vw
open PySem PySem.Spec PyProof.Rows L2
local macro_rules | `(tactic| walk_at "rd") => `(tactic| simp only [tSeq, tNext, tIfS, tAsg, tRet, tRetN, tDrop, tVar, tC, tOp, tUn, tTest, tB, tAnd, tOr, tNot, tAndV, tOrV, tNotV, tIf, tChain, tCB, tCons, tNil, tCall, tMeth, tMake, tFld, sFld, tTup, tLst, tTupS, tLstS, tDNewKS, tDNewTS, tTold, tCmp, t2I, tIsN, tNotN, tPar, gName, gNil, gCons, gTup, gSub, rI0, rU, rEq, rNe, tDGet, tDIn, tDNotIn, sDPut, tDNewK, tDGet1, tDGet2, tDPop1, tDPop2, tBM, tBM0, tM0, tM1, tSl, tPart, tNoPart, tBreak, tCont, tThru, L2.start, List.map_cons, List.map_nil, List.length_cons, List.length_nil, List.cons_append, List.nil_append, List.append_nil, List.replicate_succ, List.replicate_zero, Nat.reduceAdd, Nat.reduceSub, Nat.zero_add, List.getElem?_cons_zero, List.getElem?_cons_succ, List.set_cons_zero, List.set_cons_succ, wipe, cxOf_K, tYes, List.cons.injEq, and_self, Option.some.injEq, V.int.injEq, V.bl.injEq, V.ref.injEq, V.str.injEq, exists_eq_left', exists_eq_left, exists_and_left, and_assoc, true_and, and_true, if_true, if_false, ite_true, ite_false, Bool.not_true, Bool.not_false, Bool.false_eq_true, reduceIte])
theorem beneath_nil {rs : Rows} (F : Wf rs) (n : Int) : beneathR rs n = [] ↔ repliesR rs n = [] := by
  constructor
  · intro h
    cases q : repliesR rs n with
    | nil => rfl
    | cons c r =>
      have hc : c ∈ repliesR rs n := by rw [q]; exact List.mem_cons_self
      obtain ⟨x, hx, _⟩ := mem_replies.mp hc
      have : c ∈ beneathR rs n := mem_beneath.mpr ⟨⟨x, hx⟩, by rw [reply_above F hc]; exact List.mem_cons_self⟩
      rw [h] at this
      cases this
  · intro h
    cases q : beneathR rs n with
    | nil => rfl
    | cons c r =>
      have hc : c ∈ beneathR rs n := by rw [q]; exact List.mem_cons_self
      obtain ⟨⟨x, hx⟩, ha⟩ := mem_beneath.mp hc
      obtain ⟨d, hd, _⟩ := above_child F c.toNat (Nat.le_refl _) ⟨x, findR_of F.nk hx⟩ ha
      rw [h] at hd
      cases hd
theorem put_text (r : Row) (v : Addr) : putK (rowK r v) (Sum.inr "text") .non = rowK { r with struck := true } v := by simp [rowK, putK, ofString_inj, tellV]
section
variable {P : Program} {w : World} {K : PySem.W.Frag} {mg : Str → Option Value} {base : Heap}
def spOStrike (K : PySem.W.Frag) : Sp := fun vs H Q _ => ∃ (O : OLay) (n : Int) (r : Row), vs = [.ref O.p, .int n] ∧ OwnAt H O ∧ Good O.wd ∧ findR O.rows n = some r ∧
  ∀ H' O', OwnAt H' O' → O'.wd = { O.wd with rows := (goneR (setR O.rows n { r with struck := true }) n).1 } → OStep H O H' O' → Q (.int (goneR (setR O.rows n { r with struck := true }) n).2) H'
abbrev N__law_strike : List Str := ["own", "number", "many"]
theorem sc__law_strike : FnScope N__law_strike ["own", "number"] (defScope s__law_strike) := ⟨rfl, rfl, rfl, by decide +kernel, rfl, by decide +kernel, by decide +kernel⟩
theorem be__law_strike : BindEq "_law_strike" "_law_strike" s__law_strike ["own", "number"] := fun _ _ _ _ _ _ us hl => match us, hl with | [_, _], _ => rfl
theorem D__law_strike (T : Txt K mg base) : Def P w K mg base 5 (He.ga K "_law_strike") ["own", "number"] (spOStrike K) := by
  refine mk_def T.f__law_strike sc__law_strike be__law_strike (fun vs H Q E h => ?_) (fun cdv A outer s H vs Q E hr h => ?_)
  · obtain ⟨O, n, r, rfl, _⟩ := h
    rfl
  · obtain ⟨O, n, r, rfl, W, G, fr, k1⟩ := h
    refine ⟨_, (pss_cons (ps_dp (pe_dg (pe_dg (pv 0) pe_str (by exact hu_of hr)) (pv 1) (by exact hu_of hr)) pe_str pe_non (by exact hu_of hr))
      (pss_cons (ps_set (i := 2) sc__law_strike.nd rfl (Or.inl rfl) pe_int)
      (pss_cons (ps_while ownE (PW.pt (pw_and (pt_cmpR op_ne (pv 1) pe_int (nomark _)) (pw_and (pt_cmpR op_isN (pe_dg (pe_dg (pe_dg (pv 0) pe_str (by exact hu_of hr)) (pv 1) (by exact hu_of hr)) pe_str (by exact hu_of hr)) pe_non (nomark _)) (pw_and1 (pt_eqd (pe_cd (D__law_beneath T) (by exact hr.mono (by first | decide | omega)) T.g__law_beneath passE (pa_cons (pv 0) (pa_cons (pv 1) pa_nil))) (pe_lstS pa_nil) (by exact hr.units)))))) (pss_cons (ps_set (i := 1) sc__law_strike.nd rfl (Or.inl rfl) (pe_dg (pe_dp1 (pe_dg (pv 0) pe_str (by exact hu_of hr)) (pv 1)) pe_str (by exact hu_of hr)))
      (pss_one (ps_set (i := 2) sc__law_strike.nd rfl (Or.inl rfl) (pe_op op_add (pv 2) pe_int)))))
      (pss_one (ps_ret (pv 2)))))), ?_⟩
    walk_at "rd"
    obtain ⟨e, he, er⟩ := OLay.ent fr
    have hm := (findO_mem he).1
    have en := (findO_mem he).2
    have lz : (5 : Nat) < sizeLine := by rw [sizeLine_eq]; omega
    refine ⟨_, g_rows W.rd.top, _, rfl, _, W.rd.at he, _, rfl, _, DPut.k (k := Sum.inr "text") (W.rd.row e hm) (by show 5 < sizeLine; exact lz), ?_⟩
    rw [put_text]
    have kp : ∀ b o, b ≠ e.a → b ≠ e.v → H b = some o → upd H e.a (.dK (rowK { e.row with struck := true } e.v)) b = some o := fun b o h1 _ q => by rw [upd_ne h1]; exact q
    have W2 := W.set hm (r := { e.row with struck := true }) upd_same (by rw [upd_ne (fun z => W.av e hm e hm z.symm)]; exact W.rd.vot e hm) (W.rd.ndv e hm) (W.rd.vsz e hm) kp
    have st2 := OStep.set (r := { e.row with struck := true }) hm kp
    generalize upd H e.a (.dK (rowK { e.row with struck := true } e.v)) = H2 at W2 st2 ⊢
    have er2 : ({ O with ents := setO O.ents e.n { e.row with struck := true } } : OLay).rows = setR O.rows n { r with struck := true } := by
      rw [en, er]
      exact rows_setO _ _ _
    have ew2 : ({ O with ents := setO O.ents e.n { e.row with struck := true } } : OLay).wd = { O.wd with rows := setR O.rows n { r with struck := true } } := by
      rw [← er2]
      rfl
    have G2 : Good ({ O with ents := setO O.ents e.n { e.row with struck := true } } : OLay).wd := by
      rw [ew2]
      exact Good.set G fr rfl
    have ec2 : ({ O with ents := setO O.ents e.n { e.row with struck := true } } : OLay).came = O.came := rfl
    have ek2 : ({ O with ents := setO O.ents e.n { e.row with struck := true } } : OLay).clock = O.clock := rfl
    generalize ({ O with ents := setO O.ents e.n { e.row with struck := true } } : OLay) = O2 at W2 st2 er2 ec2 ek2 G2
    rw [← er2] at k1
    have hn2 : n = 0 ∨ ∃ r, findR O2.rows n = some r := .inr ⟨_, by rw [er2]; exact findR_set G.wf.nk fr⟩
    refine ⟨fun m σ H' => ∃ (O' : OLay) (i c : Int), σ = [some (.ref O.p), some (.int i), some (.int c)] ∧ m = i.toNat ∧ OwnAt H' O' ∧ OStep H O H' O' ∧ Good O'.wd ∧ O'.came = O.came ∧ O'.clock = O.clock ∧ (i = 0 ∨ ∃ r, findR O'.rows i = some r) ∧ (goneR O2.rows n).1 = (goneR O'.rows i).1 ∧ (goneR O2.rows n).2 = (goneR O'.rows i).2 + c,
      ⟨_, O2, n, 0, rfl, rfl, W2, st2, G2, ec2, ek2, hn2, rfl, by omega⟩, ?_⟩
    rintro m σ H' ⟨O', i, c, rfl, rfl, W', st', G', ec', ek', hi', eg1, eg2⟩
    have pp : O'.p = O.p := st'.p
    have F' : Wf O'.rows := G'.wf
    have out : ∀ H4, Same H' H4 → goneR O'.rows i = (O'.rows, 0) → Q (.int c) H4 := fun H4 s4 g => by
      have q := k1 H4 O' (W'.same s4) ?_ (st'.trans (OStep.same s4))
      · rw [eg2, g] at q
        have e : (0 : Int) + c = c := by omega
        dsimp only at q
        rw [e] at q
        exact q
      · rw [eg1, g]
        show (⟨O'.rows, O'.came, O'.clock⟩ : Wd) = ⟨O'.rows, O.came, O.clock⟩
        rw [ec', ek']
    walk_at "rd"
    refine ⟨rfl, ?_⟩
    by_cases i0 : i = 0
    · rw [decide_eq_true i0]
      refine iteF (out H' (Same.refl _) ?_)
      rw [i0, goneR, F'.find0]
    · rw [decide_eq_false i0]
      obtain ⟨ri, hri⟩ := hi'.resolve_left i0
      obtain ⟨e', he', eri⟩ := OLay.ent hri
      have me' := (findO_mem he').1
      rw [← pp]
      refine iteT ⟨_, g_rows W'.rd.top, _, rfl, _, W'.rd.at he', _, rfl, _, g_text (W'.rd.row e' me'), ?_⟩
      obtain ⟨up1, up2, up3, up4⟩ := F'.up hri
      cases cs : e'.row.struck with
      | false =>
        rw [decide_eq_false (show ¬ tellV e'.row = V.non by unfold tellV; rw [cs]; intro z; cases z)]
        refine iteF (out H' (Same.refl _) ?_)
        rw [goneR, hri]
        show (if h : _ then _ else _) = _
        rw [dif_neg (by rw [← eri, cs]; simp)]
      | true =>
        rw [decide_eq_true (show tellV e'.row = V.non by unfold tellV; rw [cs]; rfl)]
        refine iteT ⟨O', i, rfl, W', F', G'.dp, fun q1 H3 n3 s3 e3 => ⟨Nat.zero_le _, fun l H4 n4 s4 e4 => use_eqD (dp_ints (s4 _ _ e3)) (dp_ints (ns := []) e4) (shaped_ints _) (shaped_ints []) ⟨_, rfl, ?_⟩⟩⟩
        rw [eqv_ints]
        have s24 := s3.trans s4
        have W4 := W'.same s24
        by_cases er0 : sortI (beneathR O'.rows i) = []
        · have re : repliesR O'.rows i = [] := by
            have := sortI_perm (beneathR O'.rows i)
            rw [er0] at this
            exact (beneath_nil F' i).mp this.nil_eq.symm
          rw [decide_eq_true er0]
          have g : goneR O'.rows i = ((goneR (dropR O'.rows i) ri.under).1, (goneR (dropR O'.rows i) ri.under).2 + 1) := by
            rw [goneR, hri]
            show (if h : _ then _ else _) = _
            rw [dif_pos ⟨up2, up3, up4, by rw [← eri]; exact cs, re⟩]
          have kp5 : ∀ b o, b ≠ O'.d → H4 b = some o → upd H4 O'.d (.dK (dropK (O'.ents.map oK) (Sum.inl i))) b = some o := fun b o hb e => by rw [upd_ne hb]; exact e
          have W5 := W4.pop i upd_same kp5
          have st5 := (st'.trans (OStep.same s24)).trans (OStep.pop (O := O') i kp5)
          refine iteT ⟨_, fun _ _ h => h, _, g_rows W4.rd.top, _, rfl, W4.rd.isD, _, W4.dic, Sum.inl i, rfl, _, by rw [valV_oK, he']; rfl, _, rfl, _, g_under (kp5 _ _ (W4.da e' me').1 (W4.rd.row e' me')), ?_⟩
          refine ⟨ri.under.toNat, by omega, { O' with ents := O'.ents.filter fun e => decide (e.n ≠ i) }, ri.under, c + 1, ?_, rfl, W5, st5, ?_, ec', ek', ?_, ?_, ?_⟩
          · rw [eri]
          · have : ({ O' with ents := O'.ents.filter fun e => decide (e.n ≠ i) } : OLay).wd = { O'.wd with rows := dropR O'.rows i } := by
              rw [← rows_pop]
              rfl
            rw [this]
            exact Good.drop G' re
          · rw [rows_pop]
            rcases F'.has _ (findR_mem hri) with z | ⟨z, hz⟩
            · exact .inl z
            · right
              have hz : findR O'.rows ri.under = some z := hz
              rw [findR_drop, if_neg (by omega)]
              exact ⟨z, hz⟩
          · rw [eg1, g, rows_pop]
          · rw [eg2, g, rows_pop]
            show (goneR (dropR O'.rows i) ri.under).2 + 1 + c = _
            omega
        · rw [decide_eq_false er0]
          refine iteF (out H4 s24 ?_)
          rw [goneR, hri]
          show (if h : _ then _ else _) = _
          rw [dif_neg fun h => er0 (by rw [(beneath_nil F' i).mpr h.2.2.2.2]; exact sortI_self List.Pairwise.nil)]
end
end Vw
namespace Vw
open PySem PySem.Spec PyProof.Rows L2
local macro_rules | `(tactic| walk_at "rd") => `(tactic| simp only [tSeq, tNext, tIfS, tAsg, tRet, tRetN, tDrop, tVar, tC, tOp, tUn, tTest, tB, tAnd, tOr, tNot, tAndV, tOrV, tNotV, tIf, tChain, tCB, tCons, tNil, tCall, tMeth, tMake, tFld, sFld, tTup, tLst, tTupS, tLstS, tDNewKS, tDNewTS, tTold, tCmp, t2I, tIsN, tNotN, tPar, gName, gNil, gCons, gTup, gSub, rI0, rU, rEq, rNe, tDGet, tDIn, tDNotIn, sDPut, tDNewK, tDGet1, tDGet2, tDPop1, tDPop2, tBM, tBM0, tM0, tM1, tSl, tPart, tNoPart, tBreak, tCont, tThru, L2.start, List.map_cons, List.map_nil, List.length_cons, List.length_nil, List.cons_append, List.nil_append, List.append_nil, List.replicate_succ, List.replicate_zero, Nat.reduceAdd, Nat.reduceSub, Nat.zero_add, List.getElem?_cons_zero, List.getElem?_cons_succ, List.set_cons_zero, List.set_cons_succ, wipe, cxOf_K, tYes, List.cons.injEq, and_self, Option.some.injEq, V.int.injEq, V.bl.injEq, V.ref.injEq, V.str.injEq, exists_eq_left', exists_eq_left, exists_and_left, and_assoc, true_and, and_true, if_true, if_false, ite_true, ite_false, Bool.not_true, Bool.not_false, Bool.false_eq_true, reduceIte])
/-! ### deeds -/
inductive Deed where
  | say (n : Int) (who text : Str)
  | tick (k : Int) (who : Str)
  | change (n : Int) (who text : Str)
  | strike (n : Int) (who : Str)
  | vote (n : Int) (who : Str) (way : Int)
def Deed.tup : Deed → List V
  | .say n who text => [.str "say", .int n, .str who, .str text]
  | .tick k who => [.str "tick", .int k, .str who]
  | .change n who text => [.str "change", .int n, .str who, .str text]
  | .strike n who => [.str "strike", .int n, .str who]
  | .vote n who way => [.str "vote", .int n, .str who, .int way]
structure DeedOk (d : Deed) : Prop where
  who : ∀ {n who text}, d = .say n who text ∨ d = .change n who text → nameZ who = true ∧ textZ text = true
  tick : ∀ {k who}, d = .tick k who → 0 ≤ k ∧ k ≤ 1000
  tickn : ∀ {k who}, d = .tick k who → nameZ who = true
  strike : ∀ {n who}, d = .strike n who → nameZ who = true
  vote : ∀ {n who way}, d = .vote n who way → nameZ who = true ∧ (way = 1 ∨ way = -1 ∨ way = 0)
def actM (M : Wd) : Deed → Except Er (V × Wd)
  | .say n who text => (sayM M (.str who) (.int n) (.str text)).map fun p => (.int p.1, p.2)
  | .tick k _ => .ok (.non, { M with clock := M.clock + k })
  | .change n who text => (changeM M (.int n) (.str who) (.str text)).map fun p => (.non, p)
  | .strike n who => (strikeM M (.int n) (.str who)).map fun p => (.int p.1, p.2)
  | .vote n who way => (voteM M (.int n) (.str who) (.int way)).map fun p => (.int p.1, p.2)
theorem put_text2 {r : Row} {v : Addr} {z : Str} (h : r.struck = false) : putK (rowK r v) (Sum.inr "text") (.str z) = rowK { r with text := z } v := by simp [rowK, putK, ofString_inj, tellV, h]
theorem dq {a b : String} (h : a ≠ b) : decide (V.str (Str.ofString a) = V.str (Str.ofString b)) = false := decide_eq_false fun z => h (by rw [← ofString_inj]; exact V.str.inj z)
theorem dq1 (a : Str) : decide (V.str a = V.str a) = true := decide_eq_true rfl
theorem points_sum : ∀ {r : Row}, (∀ v ∈ r.votes, v.2 = 1 ∨ v.2 = -1) → r.points = (r.votes.map (·.2)).sum := fun {r} h => by
  unfold Row.points Row.ups Row.downs
  generalize r.votes = l at h
  induction l with
  | nil => rfl
  | cons p t ih =>
    obtain ⟨b, w⟩ := p
    have q := ih fun v hv => h v (List.mem_cons_of_mem _ hv)
    have hw : w = 1 ∨ w = -1 := h (b, w) List.mem_cons_self
    rcases hw with e | e
    all_goals subst e; simp [List.filter_cons] at q ⊢; omega
def VotesOk (M : Wd) : Prop := ∀ p ∈ M.rows, ∀ v ∈ p.2.votes, v.2 = 1 ∨ v.2 = -1
theorem sayingG {M : Wd} (G : Good M) (n : Int) : sayingM M (.int n) = (findR M.rows n).map fun r => (n, r) := by
  show (if 1 ≤ n ∧ n ≤ M.came then (findR M.rows n).map fun r => (n, r) else none) = _
  cases q : findR M.rows n with
  | none => split <;> rfl
  | some r =>
    have m := findR_mem q
    have h1 := G.wf.pos _ m
    have h2 := G.le _ m
    have h1 : 0 < n := h1
    have h2 : n ≤ M.came := h2
    rw [if_pos ⟨by omega, h2⟩]
section
variable {P : Program} {w : World} {K : PySem.W.Frag} {mg : Str → Option Value} {base : Heap}
def spAct (K : PySem.W.Frag) : Sp := fun vs H Q _ => ∃ (O : OLay) (p : Addr) (d : Deed), vs = [.ref O.p, .ref p] ∧ SqT K H p d.tup ∧ OwnAt H O ∧ Good O.wd ∧ DeedOk d ∧ VotesOk O.wd ∧ (∀ e ∈ O.ents, e.row.votes.length < 9999) ∧
  (∀ v M, actM O.wd d = .ok (v, M) → ∀ H' O', OwnAt H' O' → O'.wd = M → OStep H O H' O' → Q v H') ∧ (∀ e, actM O.wd d = .error e → Refu e.cls H Q)
abbrev N__law_act : List Str := ["own", "deed", "word", "number", "by", "row"]
theorem sc__law_act : FnScope N__law_act ["own", "deed"] (defScope s__law_act) := ⟨rfl, rfl, rfl, by decide +kernel, rfl, by decide +kernel, by decide +kernel⟩
theorem be__law_act : BindEq "_law_act" "_law_act" s__law_act ["own", "deed"] := fun _ _ _ _ _ _ us hl => match us, hl with | [_, _], _ => rfl
theorem D__law_act (T : Txt K mg base) : Def P w K mg base 7 (He.ga K "_law_act") ["own", "deed"] (spAct K) := by
  refine mk_def T.f__law_act sc__law_act be__law_act (fun vs H Q E h => ?_) (fun cdv A outer s H vs Q E hr h => ?_)
  · obtain ⟨O, p, d, rfl, _⟩ := h
    rfl
  · obtain ⟨O, p, d, rfl, hp, W, G, ok, vok, vz, k1, k0⟩ := h
    refine ⟨_, (pss_cons (ps_asg (pe_slice sl_tupN (pv 1) po_none (po_some pe_int)) (pg_tup (n := 3) (by rfl) (pgs_cons (pg_name (i := 2) sc__law_act.nd rfl (Or.inl rfl)) (pgs_cons (pg_name (i := 3) sc__law_act.nd rfl (Or.inl rfl)) (pgs_cons (pg_name (i := 4) sc__law_act.nd rfl (Or.inl rfl)) pgs_nil)))))
      (pss_cons (ps_if (pt_cmpR op_eq (pv 2) pe_str (nomark _)) (pss_one (ps_ret (pe_cd (D__law_say T) (by exact hr.mono (by first | decide | omega)) T.g__law_say passE (pa_cons (pv 0) (pa_cons (pv 4) (pa_cons (pv 3) (pa_cons (pe_ix ix_tup (pv 1) pe_int (fun _ _ => rfl)) pa_nil))))))) pss_nil)
      (pss_cons (ps_if (pt_cmpR op_eq (pv 2) pe_str (nomark _)) (pss_cons (ps_dp (pv 0) pe_str (pe_op op_add (pe_dg (pv 0) pe_str (by exact hu_of hr)) (pv 3)) (by exact hu_of hr))
      (pss_one (ps_ret pe_non))) pss_nil)
      (pss_cons (ps_if (pt_cmp (pc_dni (pv 3) (pe_dg (pv 0) pe_str (by exact hu_of hr)) (by exact hu_of hr))) (pss_one (ps_ret (pe_tupS (pa_cons pe_str (pa_cons pe_str pa_nil))))) pss_nil)
      (pss_cons (ps_set (i := 5) sc__law_act.nd rfl (Or.inl rfl) (pe_dg (pe_dg (pv 0) pe_str (by exact hu_of hr)) (pv 3) (by exact hu_of hr)))
      (pss_cons (ps_if (PW.pt (pw_or (pt_cmpR op_isN (pe_dg (pv 5) pe_str (by exact hu_of hr)) pe_non (nomark _)) (pw_or1 (pt_cmpR op_eq (pe_cmpR op_eq (pe_dg (pv 5) pe_str (by exact hu_of hr)) (pv 4) (nomark _)) (pe_cmpR op_eq (pv 2) pe_str (nomark _)) (nomark _))))) (pss_one (ps_ret (pe_tupS (pa_cons pe_str (pa_cons pe_str pa_nil))))) pss_nil)
      (pss_cons (ps_if (pt_cmpR op_eq (pv 2) pe_str (nomark _)) (pss_one (ps_ret (pe_cd (D__law_strike T) (by exact hr.mono (by first | decide | omega)) T.g__law_strike passE (pa_cons (pv 0) (pa_cons (pv 3) pa_nil))))) pss_nil)
      (pss_cons (ps_if (pt_cmpR op_eq (pv 2) pe_str (nomark _)) (pss_cons (ps_dp (pv 5) pe_str (pe_ix ix_tup (pv 1) pe_int (fun _ _ => rfl)) (by exact hu_of hr))
      (pss_one (ps_ret pe_non))) pss_nil)
      (pss_cons (ps_expr (pe_dp2 (pe_dg (pv 5) pe_str (by exact hu_of hr)) (pv 4) pe_non))
      (C8.pss_cut (ps_if (pt_ned (pe_ix ix_tup (pv 1) pe_int (fun _ _ => rfl)) pe_int (by exact hr.units)) (pss_one (ps_dp (pe_dg (pv 5) pe_str (by exact hu_of hr)) (pv 4) (pe_ix ix_tup (pv 1) pe_int (fun _ _ => rfl)) (by exact hu_of hr))) pss_nil)
      (pss_one (ps_ret (pe_cd (D__law_points T) (by exact hr.mono (by first | decide | omega)) T.g__law_points passE (pa_cons (pv 5) pa_nil)))))))))))))), ?_⟩
    walk_at "rd"
    have z3 : (5 : Nat) < sizeLine := by rw [sizeLine_eq]; omega
    refine ⟨p, _, rfl, hp, fun p2 H1 s1 h2 => ?_⟩
    have W1 := W.same s1
    have hp1 : SqT K H1 p d.tup := Same.tup s1 hp
    have k1' : ∀ v M, actM O.wd d = .ok (v, M) → ∀ H' O', OwnAt H' O' → O'.wd = M → OStep H1 O H' O' → Q v H' := fun v M h H' O' a b c => k1 v M h H' O' a b ((OStep.same s1).trans c)
    have k0' : ∀ e, actM O.wd d = .error e → Refu e.cls H1 Q := fun e h => (k0 e h).mono s1
    cases d with
    | say n who text =>
      obtain ⟨nw, tw⟩ := ok.who (.inl rfl)
      refine ⟨p2, rfl, _, h2, rfl, _, _, rfl, _, _, rfl, _, _, rfl, rfl, rfl, ?_⟩
      rw [decide_eq_true rfl]
      refine iteT ⟨p, _, 3, _, rfl, rfl, hp1, rfl, O, who, n, text, rfl, W1, G, nw, tw, fun k M h H' O' a b c => k1' _ _ ?_ H' O' a b c, fun e h => k0' e ?_⟩
      · show (sayM O.wd (.str who) (.int n) (.str text)).map _ = _
        rw [h]
        rfl
      · show (sayM O.wd (.str who) (.int n) (.str text)).map _ = _
        rw [h]
        rfl
    | tick k who =>
      refine ⟨p2, rfl, _, h2, rfl, _, _, rfl, _, _, rfl, _, _, rfl, rfl, rfl, ?_⟩
      rw [decide_eq_false (by decide +kernel)]
      refine iteF ⟨rfl, ?_⟩
      rw [decide_eq_true rfl]
      refine iteT ⟨_, g_clock W1.rd.top, _, rfl, _, rfl, _, DPut.k (k := Sum.inr "clock") W1.rd.top (by show 3 < sizeLine; omega), ?_⟩
      rw [put_clock]
      have kp1 : ∀ b o, b ≠ O.p → H1 b = some o → upd H1 O.p (.dK (ownK O.d O.came (O.clock + k))) b = some o := fun b o hb e => by rw [upd_ne hb]; exact e
      exact k1' _ _ rfl _ _ (W1.top (c := O.came) (k := O.clock + k) upd_same kp1) rfl (OStep.top kp1)
    | change n who text =>
      obtain ⟨nw, tw⟩ := ok.who (.inr rfl)
      refine ⟨p2, rfl, _, h2, rfl, _, _, rfl, _, _, rfl, _, _, rfl, rfl, rfl, ?_⟩
      rw [decide_eq_false (by decide +kernel)]
      refine iteF ⟨rfl, ?_⟩
      rw [decide_eq_false (by decide +kernel)]
      refine iteF ⟨_, g_rows W1.rd.top, _, rfl, _, .inl ⟨_, Sum.inl n, .inl W1.dic, rfl, rfl⟩, ?_⟩
      rw [valV_oK]
      have sg : sayingM O.wd (.int n) = (findO O.ents n).map fun e => (n, e.row) := by
        rw [sayingG G]
        show (findR O.rows n).map _ = _
        rw [O.find]
        cases findO O.ents n <;> rfl
      cases q : findO O.ents n with
      | none =>
        rw [q] at sg
        exact iteT ⟨by omega, New.refu (k0' .no (by show (changeM O.wd (.int n) (.str who) (.str text)).map _ = _; unfold changeM ownM; rw [sg]; rfl))⟩
      | some e =>
        rw [q] at sg
        have me := (findO_mem q).1
        have en := (findO_mem q).2
        have sg : sayingM O.wd (.int n) = some (n, e.row) := sg
        have fr : findR O.rows n = some e.row := by rw [O.find, q]; rfl
        refine iteF ⟨_, g_rows W1.rd.top, _, rfl, _, W1.rd.at q, _, rfl, _, g_text (W1.rd.row e me), ?_⟩
        cases cs : e.row.struck with
        | true =>
          rw [decide_eq_true (show tellV e.row = V.non by unfold tellV; rw [cs]; rfl)]
          exact iteT ⟨by omega, New.refu (k0' .yours (by show (changeM O.wd (.int n) (.str who) (.str text)).map _ = _; unfold changeM ownM; rw [sg]; dsimp only; rw [if_neg (show ¬ nameOk (.str who) = false by show ¬ nameZ who = false; rw [nw]; decide), if_neg (fun z => by rw [cs] at z; cases z.2)]; rfl))⟩
        | false =>
          rw [decide_eq_false (show ¬ tellV e.row = V.non by unfold tellV; rw [cs]; intro z; cases z)]
          refine iteF ⟨_, rfl, _, g_by (W1.rd.row e me), rfl, rfl, rfl, ?_⟩
          by_cases hw : e.row.who = who
          · rw [hw, dq1 who, dq (a := "change") (b := "vote") (by decide), show decide (true = false) = false from rfl]
            refine iteF ⟨rfl, ?_⟩
            rw [dq (a := "change") (b := "strike") (by decide)]
            refine iteF ⟨rfl, ?_⟩
            rw [dq1]
            refine iteT ⟨p, _, 3, _, rfl, rfl, hp1, rfl, _, rfl, _, DPut.k (k := Sum.inr "text") (W1.rd.row e me) (by show 5 < sizeLine; exact z3), ?_⟩
            rw [put_text2 cs]
            have kp : ∀ b o, b ≠ e.a → b ≠ e.v → H1 b = some o → upd H1 e.a (.dK (rowK { e.row with text := text } e.v)) b = some o := fun b o h1 _ q => by rw [upd_ne h1]; exact q
            refine k1' _ _ ?_ _ _ (W1.set me (r := { e.row with text := text }) upd_same (by rw [upd_ne (fun z => W1.av e me e me z.symm)]; exact W1.rd.vot e me) (W1.rd.ndv e me) (W1.rd.vsz e me) kp) rfl (OStep.set me kp)
            show (changeM O.wd (.int n) (.str who) (.str text)).map _ = _
            unfold changeM ownM
            rw [sg]
            dsimp only
            rw [if_neg (show ¬ nameOk (.str who) = false by show ¬ nameZ who = false; rw [nw]; decide), if_pos ⟨by show decide (who = e.row.who) = true; rw [hw]; exact decide_eq_true rfl, cs⟩]
            dsimp only
            rw [tw]
            show Except.ok (V.non, ({ rows := setR O.rows n { e.row with text := text }, came := O.came, clock := O.clock } : Wd)) = Except.ok (V.non, ({ O with ents := setO O.ents e.n { e.row with text := text } } : OLay).wd)
            unfold OLay.wd
            rw [rows_setO, en]
          · rw [show decide (V.str e.row.who = V.str who) = false from decide_eq_false (fun z => hw (V.str.inj z)), dq (a := "change") (b := "vote") (by decide), show decide (false = false) = true from rfl]
            refine iteT ⟨by omega, New.refu (k0' .yours ?_)⟩
            show (changeM O.wd (.int n) (.str who) (.str text)).map _ = _
            unfold changeM ownM
            rw [sg]
            dsimp only
            rw [if_neg (show ¬ nameOk (.str who) = false by show ¬ nameZ who = false; rw [nw]; decide), if_neg (fun z => hw (of_decide_eq_true (show decide (who = e.row.who) = true from z.1)).symm)]
            rfl
    | strike n who =>
      have nw := ok.strike rfl
      refine ⟨p2, rfl, _, h2, rfl, _, _, rfl, _, _, rfl, _, _, rfl, rfl, rfl, ?_⟩
      rw [decide_eq_false (by decide +kernel)]
      refine iteF ⟨rfl, ?_⟩
      rw [decide_eq_false (by decide +kernel)]
      refine iteF ⟨_, g_rows W1.rd.top, _, rfl, _, .inl ⟨_, Sum.inl n, .inl W1.dic, rfl, rfl⟩, ?_⟩
      rw [valV_oK]
      have sg : sayingM O.wd (.int n) = (findO O.ents n).map fun e => (n, e.row) := by
        rw [sayingG G]
        show (findR O.rows n).map _ = _
        rw [O.find]
        cases findO O.ents n <;> rfl
      cases q : findO O.ents n with
      | none =>
        rw [q] at sg
        exact iteT ⟨by omega, New.refu (k0' .no (by show (strikeM O.wd (.int n) (.str who)).map _ = _; unfold strikeM ownM; rw [sg]; rfl))⟩
      | some e =>
        rw [q] at sg
        have me := (findO_mem q).1
        have en := (findO_mem q).2
        have sg : sayingM O.wd (.int n) = some (n, e.row) := sg
        have fr : findR O.rows n = some e.row := by rw [O.find, q]; rfl
        refine iteF ⟨_, g_rows W1.rd.top, _, rfl, _, W1.rd.at q, _, rfl, _, g_text (W1.rd.row e me), ?_⟩
        cases cs : e.row.struck with
        | true =>
          rw [decide_eq_true (show tellV e.row = V.non by unfold tellV; rw [cs]; rfl)]
          exact iteT ⟨by omega, New.refu (k0' .yours (by show (strikeM O.wd (.int n) (.str who)).map _ = _; unfold strikeM ownM; rw [sg]; dsimp only; rw [if_neg (show ¬ nameOk (.str who) = false by show ¬ nameZ who = false; rw [nw]; decide), if_neg (fun z => by rw [cs] at z; cases z.2)]; rfl))⟩
        | false =>
          rw [decide_eq_false (show ¬ tellV e.row = V.non by unfold tellV; rw [cs]; intro z; cases z)]
          refine iteF ⟨_, rfl, _, g_by (W1.rd.row e me), rfl, rfl, rfl, ?_⟩
          by_cases hw : e.row.who = who
          · rw [hw, dq1 who, dq (a := "strike") (b := "vote") (by decide), show decide (true = false) = false from rfl]
            refine iteF ⟨rfl, ?_⟩
            rw [dq1]
            refine iteT ⟨O, n, e.row, rfl, W1, G, fr, fun H' O' a b c => k1' _ _ ?_ H' O' a b c⟩
            show (strikeM O.wd (.int n) (.str who)).map _ = _
            unfold strikeM ownM
            rw [sg]
            dsimp only
            rw [if_neg (show ¬ nameOk (.str who) = false by show ¬ nameZ who = false; rw [nw]; decide), if_pos ⟨by show decide (who = e.row.who) = true; rw [hw]; exact decide_eq_true rfl, cs⟩]
            rfl
          · rw [show decide (V.str e.row.who = V.str who) = false from decide_eq_false (fun z => hw (V.str.inj z)), dq (a := "strike") (b := "vote") (by decide), show decide (false = false) = true from rfl]
            refine iteT ⟨by omega, New.refu (k0' .yours ?_)⟩
            show (strikeM O.wd (.int n) (.str who)).map _ = _
            unfold strikeM ownM
            rw [sg]
            dsimp only
            rw [if_neg (show ¬ nameOk (.str who) = false by show ¬ nameZ who = false; rw [nw]; decide), if_neg (fun z => hw (of_decide_eq_true (show decide (who = e.row.who) = true from z.1)).symm)]
            rfl
    | vote n who way =>
      obtain ⟨nw, ww⟩ := ok.vote rfl
      have cw : isCount (.int way) (-1) 1 = true := by
        show (decide ((-1 : Int) ≤ way) && decide (way ≤ 1)) = true
        simp
        omega
      refine ⟨p2, rfl, _, h2, rfl, _, _, rfl, _, _, rfl, _, _, rfl, rfl, rfl, ?_⟩
      rw [decide_eq_false (by decide +kernel)]
      refine iteF ⟨rfl, ?_⟩
      rw [decide_eq_false (by decide +kernel)]
      refine iteF ⟨_, g_rows W1.rd.top, _, rfl, _, .inl ⟨_, Sum.inl n, .inl W1.dic, rfl, rfl⟩, ?_⟩
      rw [valV_oK]
      have sg : sayingM O.wd (.int n) = (findO O.ents n).map fun e => (n, e.row) := by
        rw [sayingG G]
        show (findR O.rows n).map _ = _
        rw [O.find]
        cases findO O.ents n <;> rfl
      cases q : findO O.ents n with
      | none =>
        rw [q] at sg
        exact iteT ⟨by omega, New.refu (k0' .no (by show (voteM O.wd (.int n) (.str who) (.int way)).map _ = _; unfold voteM; rw [sg]; rfl))⟩
      | some e =>
        rw [q] at sg
        have me := (findO_mem q).1
        have en := (findO_mem q).2
        have sg : sayingM O.wd (.int n) = some (n, e.row) := sg
        have fr : findR O.rows n = some e.row := by rw [O.find, q]; rfl
        refine iteF ⟨_, g_rows W1.rd.top, _, rfl, _, W1.rd.at q, _, rfl, _, g_text (W1.rd.row e me), ?_⟩
        cases cs : e.row.struck with
        | true =>
          rw [decide_eq_true (show tellV e.row = V.non by unfold tellV; rw [cs]; rfl)]
          exact iteT ⟨by omega, New.refu (k0' .yours (by show (voteM O.wd (.int n) (.str who) (.int way)).map _ = _; unfold voteM; rw [sg]; dsimp only; rw [if_neg (show ¬ nameOk (.str who) = false by show ¬ nameZ who = false; rw [nw]; decide), if_neg (by rw [cw]; decide), if_pos (.inr cs)]; rfl))⟩
        | false =>
          rw [decide_eq_false (show ¬ tellV e.row = V.non by unfold tellV; rw [cs]; intro z; cases z)]
          refine iteF ⟨_, rfl, _, g_by (W1.rd.row e me), rfl, rfl, rfl, ?_⟩
          by_cases hw : e.row.who = who
          · rw [hw, dq1 who, dq1, show decide (true = true) = true from rfl]
            refine iteT ⟨by omega, New.refu (k0' .yours ?_)⟩
            show (voteM O.wd (.int n) (.str who) (.int way)).map _ = _
            unfold voteM
            rw [sg]
            dsimp only
            rw [if_neg (show ¬ nameOk (.str who) = false by show ¬ nameZ who = false; rw [nw]; decide), if_neg (by rw [cw]; decide), if_pos (.inl hw)]
            rfl
          · rw [show decide (V.str e.row.who = V.str who) = false from decide_eq_false (fun z => hw (V.str.inj z)), dq1, show decide (false = true) = false from rfl]
            refine iteF ⟨rfl, ?_⟩
            rw [dq (a := "vote") (b := "strike") (by decide)]
            refine iteF ⟨rfl, ?_⟩
            rw [dq (a := "vote") (b := "change") (by decide)]
            refine iteF ⟨_, rfl, _, g_votes (W1.rd.row e me), pop_any (W1.rd.vot e me) fun H2 h3 k2 => ?_⟩
            have keepT : ∀ {H3 : Hp}, (∀ b o, b ≠ e.v → H1 b = some o → H3 b = some o) → SqT K H3 p (Deed.vote n who way).tup := fun {H3} kk => by
              rcases hp1 with (h | ⟨o, h⟩) | h
              · exact .inl (.inl (kk _ _ (ne_of h (W1.rd.vot e me) (by intro z; cases z)) h))
              · exact .inl (.inr ⟨o, kk _ _ (ne_of h (W1.rd.vot e me) (by intro z; cases z)) h⟩)
              · exact .inr h
            have ndf : ((e.row.votes.filter fun p => decide (p.1 ≠ who)).map (·.1)).Nodup := (W1.rd.ndv e me).sublist (List.filter_sublist.map _)
            have lf : (e.row.votes.filter fun p => decide (p.1 ≠ who)).length ≤ e.row.votes.length := List.length_filter_le _ _
            have vze := vz e me
            have hno : ∀ p ∈ e.row.votes.filter (fun p => decide (p.1 ≠ who)), p.1 ≠ who := fun p hp => by simpa using (List.mem_filter.mp hp).2
            have ndm : ((votesM e.row.votes who way).map (·.1)).Nodup := by
              unfold votesM
              dsimp only
              split
              · exact ndf
              · rw [List.map_append]
                refine nd_snoc ndf fun m => ?_
                obtain ⟨p, hp, ep⟩ := List.mem_map.mp m
                exact hno p hp ep
            have lm : (votesM e.row.votes who way).length < 99999 := by
              unfold votesM
              dsimp only
              split
              · omega
              · rw [List.length_append, List.length_singleton]
                omega
            refine ⟨fun σ' H3 => σ' = [some (.ref O.p), some (.ref p), some (.str "vote"), some (.int n), some (.str who), some (.ref e.a)] ∧ H3 e.v = some (.dK (votesK (votesM e.row.votes who way))) ∧ (∀ b o, b ≠ e.v → H1 b = some o → H3 b = some o), ?_, ?_⟩
            · walk_at "rd"
              refine ⟨p, _, 3, .int way, rfl, rfl, keepT k2, rfl, use_neD (.int _) (.int _) rfl rfl ⟨_, rfl, ?_⟩⟩
              rw [eqv_int]
              by_cases w0 : way = 0
              · rw [decide_eq_true w0]
                have ev0 : votesM e.row.votes who way = e.row.votes.filter fun p => decide (p.1 ≠ who) := if_pos w0
                exact iteF ⟨by rw [ev0]; exact h3, k2⟩
              · rw [decide_eq_false w0]
                have ev0 : votesM e.row.votes who way = (e.row.votes.filter fun p => decide (p.1 ≠ who)) ++ [(who, way)] := if_neg w0
                have vn : valV (votesK (e.row.votes.filter fun p => decide (p.1 ≠ who))) (Sum.inr who) = none := by
                  cases q : valV (votesK (e.row.votes.filter fun p => decide (p.1 ≠ who))) (Sum.inr who) with
                  | none => rfl
                  | some u =>
                    have m := valV_in q
                    unfold votesK at m
                    rw [List.map_map] at m
                    obtain ⟨p, hp, ep⟩ := List.mem_map.mp m
                    exact absurd (Sum.inr.inj ep) (hno p hp)
                refine iteT ⟨p, _, 3, .int way, rfl, rfl, keepT k2, rfl, _, g_votes (k2 _ _ (W1.av e me e me) (W1.rd.row e me)), _, rfl, _, DPut.k (k := Sum.inr who) h3 (by unfold votesK; rw [List.length_map, sizeLine_eq]; omega), ?_, fun b o hb q => by rw [upd_ne hb]; exact k2 b o hb q⟩
                rw [upd_same, putK_new _ vn]
                show some (HO.dK (votesK _ ++ [voteK (who, way)])) = some (HO.dK (votesK (votesM e.row.votes who way)))
                rw [ev0]
                simp [votesK]
            · rintro σ' H3 ⟨rfl, h4, k3⟩
              walk_at "rd"
              have ra : H3 e.a = some (.dK (rowK { e.row with votes := votesM e.row.votes who way } e.v)) := k3 _ _ (W1.av e me e me) (W1.rd.row e me)
              have k3' : ∀ b o, b ≠ e.a → b ≠ e.v → H1 b = some o → H3 b = some o := fun b o _ hb q => k3 b o hb q
              refine ⟨e.a, e.v, { e.row with votes := votesM e.row.votes who way }, rfl, ra, h4, ndm, W1.av e me e me, lm, fun H4 s4 => ?_⟩
              have pm : ∀ v ∈ votesM e.row.votes who way, v.2 = 1 ∨ v.2 = -1 := fun v hv => by
                have old : ∀ v ∈ e.row.votes, v.2 = 1 ∨ v.2 = -1 := fun v hv => vok (e.n, e.row) (List.mem_map.mpr ⟨e, me, rfl⟩) v hv
                unfold votesM at hv
                dsimp only at hv
                split at hv
                · exact old v (List.mem_filter.mp hv).1
                · rename_i w0
                  rcases List.mem_append.mp hv with hv | hv
                  · exact old v (List.mem_filter.mp hv).1
                  · cases List.mem_singleton.mp hv
                    show way = 1 ∨ way = -1
                    omega
              refine k1' _ _ ?_ _ _ ((W1.set me ra h4 ndm lm k3').same s4) rfl ((OStep.set me k3').trans (OStep.same s4))
              show (voteM O.wd (.int n) (.str who) (.int way)).map _ = _
              unfold voteM
              rw [sg]
              dsimp only
              rw [if_neg (show ¬ nameOk (.str who) = false by show ¬ nameZ who = false; rw [nw]; decide), if_neg (by rw [cw]; decide), if_neg (fun z => z.elim hw (fun z => by rw [cs] at z; cases z))]
              show Except.ok (V.int (Row.points { e.row with votes := votesM e.row.votes who way }), ({ rows := setR O.rows n { e.row with votes := votesM e.row.votes who way }, came := O.came, clock := O.clock } : Wd)) = Except.ok (V.int ((votesM e.row.votes who way).map (·.2)).sum, ({ O with ents := setO O.ents e.n { e.row with votes := votesM e.row.votes who way } } : OLay).wd)
              rw [points_sum pm]
              unfold OLay.wd
              rw [rows_setO, en]
end
end Vw
namespace Vw
open PySem PySem.Spec PyProof.Rows L2
local macro_rules | `(tactic| walk_at "rd") => `(tactic| simp only [tSeq, tNext, tIfS, tAsg, tRet, tRetN, tDrop, tVar, tC, tOp, tUn, tTest, tB, tAnd, tOr, tNot, tAndV, tOrV, tNotV, tIf, tChain, tCB, tCons, tNil, tCall, tMeth, tMake, tFld, sFld, tTup, tLst, tTupS, tLstS, tDNewKS, tDNewTS, tTold, tCmp, t2I, tIsN, tNotN, tPar, gName, gNil, gCons, gTup, gSub, rI0, rU, rEq, rNe, tDGet, tDIn, tDNotIn, sDPut, tDNewK, tDGet1, tDGet2, tDPop1, tDPop2, tBM, tBM0, tM0, tM1, tSl, tPart, tNoPart, tBreak, tCont, tThru, L2.start, List.map_cons, List.map_nil, List.length_cons, List.length_nil, List.cons_append, List.nil_append, List.append_nil, List.replicate_succ, List.replicate_zero, Nat.reduceAdd, Nat.reduceSub, Nat.zero_add, List.getElem?_cons_zero, List.getElem?_cons_succ, List.set_cons_zero, List.set_cons_succ, wipe, cxOf_K, tYes, List.cons.injEq, and_self, Option.some.injEq, V.int.injEq, V.bl.injEq, V.ref.injEq, V.str.injEq, exists_eq_left', exists_eq_left, exists_and_left, and_assoc, true_and, and_true, if_true, if_false, ite_true, ite_false, Bool.not_true, Bool.not_false, Bool.false_eq_true, reduceIte])
/-- a wood's deed, by way of a lambda: tables of code objects may grow -/
structure WStep (H : Hp) (L : Lay) (H' : Hp) (L' : Lay) : Prop where
  p : L'.p = L.p
  keep : ∀ b o, b ∉ foot L → H b = some o → (∀ ps, o ≠ .tbl ps) → H' b = some o
  new : ∀ b ∈ foot L', b ∈ foot L ∨ ∀ o, H b = some o → ∃ ps, o = .tbl ps
theorem WStep.of {H H1 H' : Hp} {L L' : Lay} (e : LamX.ExtN H H1) (s : Step H1 L H' L') : WStep H L H' L' :=
  ⟨s.p, fun b o hb h n => s.keep b o hb (e b o h n), fun b hb => (s.new b hb).elim .inl fun z => .inr fun o h => by
    by_cases c : ∃ ps, o = .tbl ps
    · exact c
    · have := e b o h fun ps q => c ⟨ps, q⟩
      rw [z] at this
      cases this⟩
def sixE (e : Er) : Prop := e = .name ∨ e = .no ∨ e = .text ∨ e = .full ∨ e = .yours ∨ e = .number
theorem six_cls {e : Er} (h : sixE e) : e.cls ∈ errs := by
  rcases h with rfl | rfl | rfl | rfl | rfl | rfl <;> decide +kernel
theorem say_errs {M : Wd} {b u t : PyData} {e : Er} (h : sayM M b u t = .error e) : sixE e := by
  unfold sayM at h
  unfold sixE
  repeat' split at h
  all_goals first | (cases h; simp; done) | (cases h; done)
theorem own_errs {M : Wd} {d b : PyData} {e : Er} (h : ownM M d b = .error e) : sixE e := by
  unfold ownM at h
  unfold sixE
  repeat' split at h
  all_goals first | (cases h; simp; done) | (cases h; done)
theorem act_errs {M : Wd} {d : Deed} {e : Er} (h : actM M d = .error e) : e.cls ∈ errs := by
  refine six_cls ?_
  have mp : ∀ {α β : Type} {x : Except Er α} {f : α → β}, x.map f = .error e → x = .error e := fun {α β x f} h => by
    cases x with
    | error e' => cases h; rfl
    | ok a => cases h
  cases d with
  | say n who text => exact say_errs (mp h)
  | tick k who => cases h
  | change n who text =>
    have h := mp h
    unfold changeM at h
    split at h
    · rename_i q
      cases h
      exact own_errs q
    · dsimp only at h
      split at h
      · cases h
      · cases h
        exact .inr (.inr (.inl rfl))
  | strike n who =>
    have h := mp h
    unfold strikeM at h
    split at h
    · rename_i q
      cases h
      exact own_errs q
    · cases h
  | vote n who way =>
    have h := mp h
    unfold voteM at h
    unfold sixE
    repeat' split at h
    all_goals first | (cases h; simp; done) | (cases h; done)
theorem short_text {z : Str} (h : textZ z = true) : Short (.str z) := by
  unfold textZ at h
  simp only [Bool.and_eq_true, decide_eq_true_eq] at h
  show z.length < sizeLine
  rw [sizeLine_eq]
  omega
section
variable {P : Program} {w : World} {K : PySem.W.Frag} {mg : Str → Option Value} {base : Heap}
def spDo (K : PySem.W.Frag) : Sp := fun vs H Q _ => ∃ (L : Lay) (p : Addr) (d : Deed), vs = [.ref L.p, .ref p] ∧ SqT K H p d.tup ∧ WoodAt K H L ∧ Good L.wd ∧ L.ents.length < 64 ∧ DeedOk d ∧ (∀ e ∈ L.ents, e.row.votes.length < 9999) ∧ LamX.Tabs (tabs K) H ∧
  (∀ v M, actM L.wd d = .ok (v, M) → ∀ H' L', WoodAt K H' L' → L'.wd = M → WStep H L H' L' → LamX.Tabs (tabs K) H' → Q v H') ∧
  (∀ e, actM L.wd d = .error e → ∀ r H', LamX.ExtN H H' → LamX.Tabs (tabs K) H' → H' r = some (.tup [.str "refused", .str e.cls]) → Q (.ref r) H')
end
end Vw
namespace Vw
open PySem PySem.Spec PyProof.Rows L2
theorem fold_rep (a : Array Nat) : ∀ (n : Nat) (acc : Array Nat), ((List.replicate n a).foldl (· ++ ·) acc).toList = acc.toList ++ (List.replicate n a.toList).flatten
  | 0, acc => by simp
  | n + 1, acc => by
    rw [List.replicate_succ, List.foldl_cons, fold_rep a n, List.replicate_succ, List.flatten_cons, Array.toList_append, List.append_assoc]
theorem fold_size (a : Array Nat) (n : Nat) : ((List.replicate n a).foldl (· ++ ·) #[]).size = n * a.size := by
  rw [← Array.length_toList, fold_rep]
  simp
/-- text * int -/
def repS (z : Str) (n : Int) : Str := if n < 1 then Str.empty else if (n == 1 || z.length == 0) = true then z else ⟨(List.replicate n.toNat z.cps).foldl (· ++ ·) #[]⟩
def rRepS : R2 := fun x y H Q => ∃ (z : Str) (n : Int), x = .str z ∧ y = .int n ∧ 0 ≤ n ∧ n ≤ 1000 ∧ z.length ≤ 1000 ∧ Q (.str (repS z n)) H
theorem op_rep_str {X : Cx} : OpR X (binaryOp .Mult) rRepS := by
  intro pins s σ H x y v u Q I rx ry h
  obtain ⟨z, n, rfl, rfl, h0, h1, h2, q⟩ := h
  obtain ⟨t, rfl⟩ := rx
  obtain ⟨t', rfl⟩ := ry
  have small : ∀ k : Nat, k ≤ 1000 → z.length * k ≤ 1000000 := fun k hk => Nat.le_trans (Nat.mul_le_mul h2 hk) (by decide)
  refine PySem.P.mul_str ?_ (fun a b => ?_) (fun a b => ?_) ?_
  · rw [decide_eq_false (by omega), decide_eq_false (by omega)]
    rfl
  · have n1 : 1 ≤ n := by omega
    intro g
    have g : ((2 : Int) ^ 63 - 1) / n < (z.length : Int) := g
    rw [Int.ediv_lt_iff_lt_mul (by omega)] at g
    have m1 : (z.length : Int) * n ≤ 1000 * 1000 := Int.mul_le_mul (by omega) h1 (by omega) (by omega)
    omega
  · have m1 := small n.toNat (by omega)
    unfold PySem.Builtin.Str.tooLong
    rw [sizeLine_eq]
    exact decide_eq_false (by omega)
  · have fin : ∀ {y : Str}, y.length ≤ sizeLine → Q (.str y) H → (Made.str y).post (EP X pins σ Q) s := fun {y} hy qy => ⟨hy, .str y, H, I.tok _, ⟨_, rfl⟩, qy⟩
    unfold repS at q
    by_cases c1 : n < 1
    · rw [if_pos c1] at q ⊢
      exact fin (Nat.zero_le _) q
    · rw [if_neg c1] at q ⊢
      by_cases c2 : (n == 1 || z.length == 0) = true
      · rw [if_pos c2] at q ⊢
        exact ⟨.str z, H, I, ⟨_, rfl⟩, q⟩
      · rw [if_neg c2] at q ⊢
        refine fin ?_ q
        show ((List.replicate n.toNat z.cps).foldl (· ++ ·) #[]).size ≤ sizeLine
        rw [fold_size, sizeLine_eq, Nat.mul_comm]
        have m1 := small n.toNat (by omega)
        have m1 : z.cps.size * n.toNat ≤ 1000000 := m1
        omega
end Vw
namespace Vw
open PySem PySem.Spec PyProof.Rows L2
/-- the items of xs[lo:hi:st] -/
def pickV (xs : List V) (lo hi st : Option Int) : List V :=
  (sliceRange (sliceBounds lo hi st xs.length).1 (sliceBounds lo hi st xs.length).2.1 (sliceBounds lo hi st xs.length).2.2).filterMap (xs[·]?)
theorem pickV_mem {xs : List V} {lo hi st : Option Int} {y : V} (h : y ∈ pickV xs lo hi st) : y ∈ xs := by
  obtain ⟨i, _, hi⟩ := List.mem_filterMap.mp h
  exact List.mem_of_getElem? hi
theorem pickV_ints (ns : List Int) (lo hi st : Option Int) : ∃ ms : List Int, pickV (ns.map V.int) lo hi st = ms.map V.int ∧ ∀ m ∈ ms, m ∈ ns := by
  unfold pickV
  generalize sliceRange _ _ _ = is
  refine ⟨is.filterMap (ns[·]?), ?_, fun m hm => ?_⟩
  · rw [List.map_filterMap]
    congr 1
    funext i
    rw [List.getElem?_map]
  · obtain ⟨i, _, hi⟩ := List.mem_filterMap.mp hm
    exact List.mem_of_getElem? hi
theorem vals_pick {xs : List V} {us : List Value} (r : Vals xs us) (is : List Nat) : Vals (is.filterMap (xs[·]?)) (is.filterMap (us[·]?)) := by
  induction is with
  | nil => exact .nil
  | cons i t ih =>
    rw [List.filterMap_cons, List.filterMap_cons]
    cases q : xs[i]? with
    | none =>
      have z : us[i]? = none := by
        rw [List.getElem?_eq_none_iff] at q ⊢
        rw [← r.length]
        exact q
      rw [z]
      exact ih
    | some x =>
      obtain ⟨u, hu, ru⟩ := r.get q
      rw [hu]
      exact .cons ru ih
theorem pickV_length (xs : List V) (lo hi st : Option Int) (us : List Value) (r : Vals xs us) : (pickV xs lo hi st).length ≤ xs.length := by
  have e := (vals_pick r (sliceRange (sliceBounds lo hi st xs.length).1 (sliceBounds lo hi st xs.length).2.1 (sliceBounds lo hi st xs.length).2.2)).length
  unfold pickV
  rw [e]
  have h := slicePick_size_le us.toArray lo hi st
  unfold slicePick at h
  rw [List.size_toArray, List.size_toArray, ← r.length] at h
  simpa using h
def tStepL (K : PySem.W.Frag) (te : TE) (tl th tst : TO) : TE := fun σ H Q => te σ H fun x H1 => tl σ H1 fun l H2 => th σ H2 fun u H3 => tst σ H3 fun st H4 => ∃ a xs, x = .ref a ∧ SqL K H4 a xs ∧ st ≠ some 0 ∧ New (.lst (pickV xs l u st)) H4 Q
section
variable {X : Cx}
theorem pe_stepL {e st : Expr} {lo hi : Option Expr} {te : TE} {tl th tst : TO} {p3 pos : Pos} (he : PE X e te) (hl : PO X lo tl) (hu : PO X hi th) (hst : PO X (some st) tst) : PE X (.Subscript e (.Slice lo hi (some st) p3) pos) (tStepL X.K te tl th tst) := by
  refine ⟨fun pins s σ H Q I h => ?_⟩
  refine Subscript_ (thn (he.run pins s σ H _ I h) fun v s1 ⟨x, H1, I1, r1, q1⟩ => ?_)
  refine wpAny_Slice (thn (hl.run pins s1 σ H1 _ I1 q1) fun vl s2 ⟨l, H2, I2, pl, q2⟩ => thn (hu.run pins s2 σ H2 _ I2 q2) fun vu s3 ⟨u, H3, I3, pu, q3⟩ => thn (hst.run pins s3 σ H3 _ I3 q3) fun vs s4 ⟨o, H4, I4, ps, q4⟩ => ?_)
  obtain ⟨a, xs, ex, hx, o0, q⟩ := q4
  subst ex
  cases r1
  have I5 : Inv X pins σ H4 { s4 with heap := s4.heap.push { cls := .type "slice", data := .fields #[vl, vu, vs] } } := I4.kept (t' := s4.toks) fun b ob q => Heap.get?_push_of_some _ q
  obtain ⟨its, r, ht, hz⟩ := I5.list hx
  have hlen := r.length
  show wpAny (model X.prog X.w) X.A (subscriptTail e (.Slice lo hi (some st) p3) (.ref a) (.ref s4.heap.objs.size)) (EP X pins σ Q) X.xe { s4 with heap := s4.heap.push { cls := .type "slice", data := .fields #[vl, vu, vs] } }
  refine tail_any (ops := [.ref a, .ref s4.heap.objs.size]) ht.isList.typeIs (PySem.slot_list_getitem.lookup) ?_ (by with_unfolding_all rfl)
  refine wpAny_getItem_list_slice ht.isList (Heap.IsSliceOf.new _ vl vu vs) pl pu ps o0 ?_ (by rw [List.size_toArray]; omega)
  refine ⟨.ref _, _, I5.laid (t' := s4.toks) (o := .lst (pickV xs l u o)) (fun b ob q => Heap.get?_push_of_some _ q) (Nat.le_refl _) ?_, rfl, q.use _ (I5.hok.fresh (Nat.le_refl _))⟩
  refine ⟨Nat.le_trans (pickV_length xs l u o its r) hz, _, 0, ?_, Heap.get?_push_size _ rfl⟩
  unfold pickV
  have e := vals_pick r (sliceRange (sliceBounds l u o xs.length).1 (sliceBounds l u o xs.length).2.1 (sliceBounds l u o xs.length).2.2)
  have e2 : its.toArray.size = xs.length := by rw [List.size_toArray, hlen]
  have e3 : (fun i : Nat => its.toArray[i]?) = fun i : Nat => its[i]? := by
    funext i
    simp
  rw [← e2] at e ⊢
  rw [← e3] at e
  exact e
/-- xs[::-1], all but the list forgotten -/
def tRevN (K : PySem.W.Frag) (te : TE) : TE := fun σ H Q => te σ H fun x H1 => ∃ a xs, x = .ref a ∧ SqL K H1 a xs ∧ New (.lst xs.reverse) H1 Q
end
def rRepN : R2 := fun x y H Q => ∃ l k xs, x = .ref l ∧ y = .int k ∧ H l = some (.lst xs) ∧ -(2 ^ 63) ≤ k ∧ k < 2 ^ 63 ∧ xs.length * k.toNat ≤ sizeLine ∧ New (.lst (List.replicate k.toNat xs).flatten) H Q
theorem op_repN {X : Cx} : OpR X (binaryOp .Mult) rRepN := fun pins s σ H x y v u Q I rx ry h => by
  obtain ⟨l, k, xs, h1, h2, h3, h4, h5, h6, h7⟩ := h
  exact op_rep pins s σ H x y v u Q I rx ry ⟨l, k, xs, h1, h2, h3, h4, h5, h6, h7.use⟩
/-- sorted(d), d's keys texts, as many as there may be -/
def rSortedSN : List V → Hp → VK → Prop := fun xs H Q => ∃ (a : Addr) (kvs : List (Key × V)) (ks : List Str), xs = [.ref a] ∧ Rd H a (.dK kvs) ∧ kvs.map (·.1) = ks.map Sum.inr ∧ ks.length ≤ 5000 ∧ ∀ ys : List Str, ys.Perm ks → sortedS ys = true → New (.lst (ys.map V.str)) H Q
theorem txts_of_keys {vs : List (Key × Value)} {ks : List Str} {acc : Array Value} (hk : vs.map (·.1) = ks.map Sum.inr) (ln : acc.toList.length = ks.length) (ha : ∀ (j : Nat) (v : Value), acc[j]? = some v → ∃ (k : Key) (x : Value), vs[j]? = some (k, x) ∧ keyIs k v = true) : StrsAre acc.toList ks := by
  refine strs_at ln fun j v hj => ?_
  obtain ⟨k, x, h1, h2⟩ := ha j v (by rw [← Array.getElem?_toList]; exact hj)
  have h3 : (ks.map (Sum.inr (α := Int)))[j]? = some k := by rw [← hk, List.getElem?_map, h1]; rfl
  rw [List.getElem?_map] at h3
  cases h4 : ks[j]? with
  | none => rw [h4] at h3; cases h3
  | some y =>
    rw [h4] at h3
    cases h3
    obtain ⟨t, hv⟩ := Value.isStrOf_shape (x := y) (v := v) h2
    exact ⟨y, t, rfl, hv⟩
theorem call_sortedSN {X : Cx} (hc : X.calm = true) : CallR X (.builtin "sorted") rSortedSN := fun pins s σ H vs us Q I r h => by
  obtain ⟨a, kvs, ks, rfl, hd, h3, h4, h5⟩ := h
  obtain ⟨u, rfl, ru⟩ := vals1 r
  cases ru
  obtain ⟨_, lo, rs, rel, dd⟩ := dk_rd I.hok hd
  obtain ⟨ep, hat⟩ := dd.dictAt
  have kk : rs.map (·.1) = ks.map Sum.inr := rel.keys.symm.trans h3
  have ll : rs.length = ks.length := by simpa using congrArg List.length kk
  have z9 : (5000 : Nat) < sizeLine := by rw [sizeLine_eq]; omega
  refine Calls.call_function_entry kind_sorted plain_sorted entry_sorted (args_sorted1 _) ?_
  unfold Builtin.«sorted»
  refine wpAny_bind (m := checkCount "sorted" 1 1 _) (wpAny_pure (wpAny_bind (PySem.W.kdu_collect (A := X.A.in1) (PySem.W.kdl_dict (knd := mixKind X.prog X.w) (kvs := rs) (ep := ep) lo) (I.ok.hd hc) hat (by omega) fun h' tk acc kp ha => ?_)))
  have la : acc.toList.length = ks.length := by rw [Array.length_toList, ha.1, ll]
  have tx := txts_of_keys kk la ha.2
  have I' : Inv X pins σ H { s with heap := h', toks := tk } := I.kept kp
  refine wpAny_bind (wpAny_newList ?_ (by omega))
  have at1 : (h'.push (seqObj "list" acc.toList.toArray 0)).get? h'.objs.size = some (seqObj "list" acc.toList.toArray 0) := Heap.get?_push_size _ rfl
  refine wpAny_bind (wpAny_holding (wpAny_call_entry slot_list_sort (s := { s with heap := h'.push (seqObj "list" acc.toList.toArray 0), toks := tk }) ⟨_, at1, rfl⟩ entry_list_sort (list_sort_treeKAny strKind_oneLt (s := { s with heap := h'.push (seqObj "list" acc.toList.toArray 0), toks := tk }) at1 tx.keysOf (fun v₁ v₂ rest e => keyKind_strs (by rw [← e]; exact tx)) (by omega) fun st pm so => ⟨_, rfl, ?_⟩) (args_list_sort _)))
  obtain ⟨ys, g1, g2, g3⟩ := sorted_out_str tx pm so
  obtain ⟨e', at2⟩ := sortedHeap_at (vs := acc.toList) (out := (arrOf st).map (·.2)) at1
  have ly : (ys.map V.str).length ≤ sizeLine := by rw [List.length_map, g2.length_eq]; omega
  refine wpAny_pure ⟨_, rfl, .ref h'.objs.size, upd H h'.objs.size (.lst (ys.map V.str)), I'.laid (t' := tk) (fun b o hb => ?_) (Nat.le_refl _) (show ObjOk X.prog X.w _ _ _ (.lst (ys.map V.str)) from ⟨ly, ((arrOf st).map (·.2)).toList, e', vals_of_strs g1, by rw [Array.toArray_toList]; exact at2⟩), rfl, (h5 ys g2 g3).use _ (I'.hok.fresh (Nat.le_refl _))⟩
  have lb : b < h'.objs.size := Heap.lt_size hb
  rw [sortedHeap_old (Nat.ne_of_lt lb) (by rw [size_push']; exact Nat.lt_succ_of_lt lb)]
  exact Heap.get?_push_of_some _ hb
theorem pg_tupK (K : PySem.W.Frag) {X : Cx} {es : List Expr} {k : Nat} {t : TGs} {n : Nat} {pos : Pos} (hc : X.calm = true) (h : PGs X es t)
    (hn : (assignEach es X.env).length = n := by rfl) (hst : (assignEach es X.env).findIdx? (·.1) = none := by rfl) (hK : X.K = K := by rfl) : PG X (.Tuple es k pos) (gTup K n t) := by
  subst hK
  exact pg_tup hc h hn hst
end Vw
namespace Vw
open PySem PySem.Spec PyProof.Rows L2
local macro_rules | `(tactic| walk_at "rd") => `(tactic| simp only [tSeq, tNext, tIfS, tAsg, tRet, tRetN, tDrop, tVar, tC, tOp, tUn, tTest, tB, tAnd, tOr, tNot, tAndV, tOrV, tNotV, tIf, tChain, tCB, tCons, tNil, tCall, tMeth, tMake, tFld, sFld, tTup, tLst, tTupS, tLstS, tDNewKS, tDNewTS, tTold, tCmp, t2I, tIsN, tNotN, tPar, gName, gNil, gCons, gTup, gSub, rI0, rU, rEq, rNe, tDGet, tDIn, tDNotIn, sDPut, tDNewK, tDGet1, tDGet2, tDPop1, tDPop2, tBM, tBM0, tM0, tM1, tSl, tPart, tNoPart, tBreak, tCont, tThru, L2.start, List.map_cons, List.map_nil, List.length_cons, List.length_nil, List.cons_append, List.nil_append, List.append_nil, List.replicate_succ, List.replicate_zero, Nat.reduceAdd, Nat.reduceSub, Nat.zero_add, List.getElem?_cons_zero, List.getElem?_cons_succ, List.set_cons_zero, List.set_cons_succ, wipe, cxOf_K, tYes, List.cons.injEq, and_self, Option.some.injEq, V.int.injEq, V.bl.injEq, V.ref.injEq, V.str.injEq, exists_eq_left', exists_eq_left, exists_and_left, and_assoc, true_and, and_true, if_true, if_false, ite_true, ite_false, Bool.not_true, Bool.not_false, Bool.false_eq_true, reduceIte])
theorem more_abs {c : Int} (h : 0 ≤ c ∧ c < 340282366920938463463374607431768211507) : c.natAbs < 2 ^ bigB :=
  Nat.lt_of_lt_of_le (abs_lt h.1 (Int.lt_trans h.2 (by decide : (340282366920938463463374607431768211507 : Int) < 2 ^ 129))) (Nat.pow_le_pow_right (by omega) (by unfold bigB; omega))
def sm (i : Int) : Nat := (small[i.toNat]?).getD 97
theorem sm_at {i : Int} (h0 : 0 ≤ i) (h1 : i < 26) : atI (Str.ofString "abcdefghijklmnopqrstuvwxyz").cps.toList i = some (sm i) := by
  have l : small.length = 26 := by decide +kernel
  rw [atI_nn h0 (by show i < ((small.length : Nat) : Int); rw [l]; exact h1)]
  unfold sm
  show small[i.toNat]? = _
  rw [List.getElem?_eq_getElem (by rw [l]; omega)]
  rfl
theorem sm_mem {i : Int} (h0 : 0 ≤ i) (h1 : i < 26) : sm i ∈ small := by
  have l : small.length = 26 := by decide +kernel
  unfold sm
  rw [List.getElem?_eq_getElem (by rw [l]; omega)]
  exact List.getElem_mem _
theorem joinL_nil : ∀ l : List Nat, TL.joinL [] (l.map fun c => [c]) = l
  | [] => rfl
  | [a] => rfl
  | a :: b :: r => by
    show [a] ++ ([] ++ TL.joinL [] ((b :: r).map fun c => [c])) = _
    rw [joinL_nil (b :: r)]
    rfl
theorem join_chars {l : List Nat} (f : Nat → Nat) : Txt.join (Str.ofString "") (l.map fun i : Nat => (⟨#[f i]⟩ : Str)) = ⟨(l.map f).toArray⟩ := by
  have e : (l.map fun i : Nat => (⟨#[f i]⟩ : Str)) = ((l.map f).map fun c => [c]).map SX.S := by
    rw [List.map_map, List.map_map]
    rfl
  have e0 : (Str.ofString "") = SX.S [] := by decide +kernel
  rw [e, e0, SX.join_S, joinL_nil]
theorem name_chars {l : List Nat} (h1 : 1 ≤ l.length) (h6 : l.length ≤ 6) (h : ∀ c ∈ l, c ∈ small) : nameZ ⟨l.toArray⟩ = true := by
  unfold nameZ
  have e : (⟨l.toArray⟩ : Str).length = l.length := by show l.toArray.size = _; simp
  rw [e, decide_eq_true h1, decide_eq_true h6]
  show (l.all fun c => decide (c ∈ small)) = true
  exact List.all_eq_true.mpr fun c hc => decide_eq_true (h c hc)
section
variable {P : Program} {w : World} {K : PySem.W.Frag} {mg : Str → Option Value} {base : Heap}
def drawR (x : Int) : Prop := 0 ≤ x ∧ x < 340282366920938463463374607431768211507
def spAnyName : Sp := fun vs H Q _ => ∃ more most : Int, vs = [.int more, .int most] ∧ drawR more ∧ 1 ≤ most ∧ most ≤ 6 ∧ ∀ z H', nameZ z = true → Same H H' → Q (.str z) H'
abbrev N__law_any_name : List Str := ["more", "most", "j"]
theorem sc__law_any_name : FnScope N__law_any_name ["more", "most"] (defScope s__law_any_name) := ⟨rfl, rfl, rfl, by decide +kernel, rfl, by decide +kernel, by decide +kernel⟩
theorem be__law_any_name : BindEq "_law_any_name" "_law_any_name" s__law_any_name ["more", "most"] := fun _ _ _ _ _ _ us hl => match us, hl with | [_, _], _ => rfl
theorem D__law_any_name (T : Txt K mg base) : Def P w K mg base 2 (He.ga K "_law_any_name") ["more", "most"] spAnyName := by
  refine mk_def T.f__law_any_name sc__law_any_name be__law_any_name (fun vs H Q E h => ?_) (fun cdv A outer s H vs Q E hr h => ?_)
  · obtain ⟨a, b, rfl, _⟩ := h
    rfl
  · obtain ⟨more, most, rfl, dr, m1, m6, k⟩ := h
    refine ⟨_, (pss_one (ps_ret (pe_join pe_str (pe_lc (own := [("j", 2)]) (g := gName 2) rfl sc__law_any_name.nd (pi_range1 (by rfl) T.b_range (pa_cons (pe_op op_add pe_int (pe_op op_mod (pv 0) (pv 1))) pa_nil)) (blkOk_by (N := N__law_any_name) (sc := defScope s__law_any_name) (by decide +kernel)) (fun _ _ _ _ _ => by exact (pg_name (i := 2) sc__law_any_name.nd rfl (Or.inl rfl))) (fun _ _ _ _ _ => pts_nil) (fun _ _ _ _ _ => by exact (pe_ix ix_str pe_str (pe_op op_mod (pe_cd (D__law_drawn T) (by exact hr.mono (by first | decide | omega)) T.g__law_drawn passF (pa_cons (pv 0) (pa_cons (pv 2) pa_nil))) pe_int) (fun _ _ => rfl))))))), ?_⟩
    walk_at "rd"
    have r0 : 0 ≤ more % most := Int.emod_nonneg _ (by omega)
    have r1 : more % most < most := Int.emod_lt_of_pos _ (by omega)
    refine ⟨⟨_, rfl⟩, lcR (n := 1 + more % most) (fun i => some (.str ⟨#[sm (drawM more i % 26)]⟩)) (fun R h => ?_) (by omega) (fun i H' hi s1 N1 N0 h1 h0 => ?_) (fun D H' nD s1 eD => ?_)⟩
    · walk_at "rd"
      exact useI (by omega) ⟨_, rfl, h⟩
    · walk_at "rd"
      have d0 : 0 ≤ drawM more i % 26 := Int.emod_nonneg _ (by decide)
      have d1 : drawM more i % 26 < 26 := Int.emod_lt_of_pos _ (by decide)
      refine ⟨more, i, rfl, more_abs dr, Nat.lt_trans (show (i : Int).natAbs < 2 ^ 10 by omega) (by decide), useI (by decide) ⟨_, _, _, rfl, rfl, by show 26 ≤ sizeLine; rw [sizeLine_eq]; omega, sm_at d0 d1, h1 _ _ (Same.refl _) rfl⟩⟩
    · have el : (List.range (1 + more % most).toNat).filterMap (fun i : Nat => some (V.str ⟨#[sm (drawM more i % 26)]⟩)) = ((List.range (1 + more % most).toNat).map fun i : Nat => (⟨#[sm (drawM more i % 26)]⟩ : Str)).map V.str := by
        rw [List.filterMap_eq_map', List.map_map]
        rfl
      rw [el] at eD
      refine ⟨D, rfl, _, .inl (SqL.of eD), ?_, k _ H' ?_ s1⟩
      · have : ∀ l : List Nat, ((l.map fun i : Nat => (⟨#[sm (drawM more i % 26)]⟩ : Str)).map (·.length)).sum = l.length := fun l => by
          induction l with
          | nil => rfl
          | cons a r ih =>
            rw [List.map_cons, List.map_cons, List.sum_cons, ih]
            show 1 + r.length = r.length + 1
            omega
        rw [this, List.length_range, List.length_map, List.length_range]
        have z : (Str.ofString "").length = 0 := by decide +kernel
        rw [z]
        omega
      · rw [join_chars]
        have ln : (1 + more % most).toNat ≤ 6 ∧ 1 ≤ (1 + more % most).toNat := by omega
        exact name_chars (by rw [List.length_map, List.length_range]; omega) (by rw [List.length_map, List.length_range]; omega) fun c hc => by
          obtain ⟨i, _, rfl⟩ := List.mem_map.mp hc
          exact sm_mem (Int.emod_nonneg _ (by decide)) (Int.emod_lt_of_pos _ (by decide))
end
end Vw
namespace Vw
open PySem PySem.Spec PyProof.Rows L2
local macro_rules | `(tactic| walk_at "rd") => `(tactic| simp only [tSeq, tNext, tIfS, tAsg, tRet, tRetN, tDrop, tVar, tC, tOp, tUn, tTest, tB, tAnd, tOr, tNot, tAndV, tOrV, tNotV, tIf, tChain, tCB, tCons, tNil, tCall, tMeth, tMake, tFld, sFld, tTup, tLst, tTupS, tLstS, tDNewKS, tDNewTS, tTold, tCmp, t2I, tIsN, tNotN, tPar, gName, gNil, gCons, gTup, gSub, rI0, rU, rEq, rNe, tDGet, tDIn, tDNotIn, sDPut, tDNewK, tDGet1, tDGet2, tDPop1, tDPop2, tBM, tBM0, tM0, tM1, tSl, tPart, tNoPart, tBreak, tCont, tThru, L2.start, List.map_cons, List.map_nil, List.length_cons, List.length_nil, List.cons_append, List.nil_append, List.append_nil, List.replicate_succ, List.replicate_zero, Nat.reduceAdd, Nat.reduceSub, Nat.zero_add, List.getElem?_cons_zero, List.getElem?_cons_succ, List.set_cons_zero, List.set_cons_succ, wipe, cxOf_K, tYes, List.cons.injEq, and_self, Option.some.injEq, V.int.injEq, V.bl.injEq, V.ref.injEq, V.str.injEq, exists_eq_left', exists_eq_left, exists_and_left, and_assoc, true_and, and_true, if_true, if_false, ite_true, ite_false, Bool.not_true, Bool.not_false, Bool.false_eq_true, reduceIte])
def signs : List Nat := (Str.ofString " !\"#$&'()*+,-./0123456789:;<=>?@ABCDEFGHIJKLMNOPQRSTUVWXYZ[\\]^_`abcdefghijklmnopqrstuvwxyz{|}~").cps.toList
def sg (i : Int) : Nat := (signs[i.toNat]?).getD 97
theorem signs_len : signs.length = 94 := by decide +kernel
theorem signs_ok : ∀ c ∈ signs, signOk c = true := by decide +kernel
theorem sg_at {i : Int} (h0 : 0 ≤ i) (h1 : i < 94) : atI signs i = some (sg i) := by
  have l := signs_len
  rw [atI_nn h0 (by rw [l]; exact h1)]
  unfold sg
  rw [List.getElem?_eq_getElem (by rw [l]; omega)]
  rfl
theorem sg_ok {i : Int} (h0 : 0 ≤ i) (h1 : i < 94) : signOk (sg i) = true := by
  have l := signs_len
  unfold sg
  rw [List.getElem?_eq_getElem (by rw [l]; omega)]
  exact signs_ok _ (List.getElem_mem _)
section
variable {P : Program} {w : World} {K : PySem.W.Frag} {mg : Str → Option Value} {base : Heap}
def spAnyText : Sp := fun vs H Q _ => ∃ more most : Int, vs = [.int more, .int most] ∧ drawR more ∧ 0 ≤ most ∧ most ≤ 29 ∧ ∀ (l : List Nat) H', l.length ≤ 29 → (∀ c ∈ l, signOk c = true) → Same H H' → Q (.str ⟨l.toArray⟩) H'
abbrev N__law_any_text : List Str := ["more", "most", "signs", "j"]
theorem sc__law_any_text : FnScope N__law_any_text ["more", "most"] (defScope s__law_any_text) := ⟨rfl, rfl, rfl, by decide +kernel, rfl, by decide +kernel, by decide +kernel⟩
theorem be__law_any_text : BindEq "_law_any_text" "_law_any_text" s__law_any_text ["more", "most"] := fun _ _ _ _ _ _ us hl => match us, hl with | [_, _], _ => rfl
theorem D__law_any_text (T : Txt K mg base) : Def P w K mg base 2 (He.ga K "_law_any_text") ["more", "most"] spAnyText := by
  refine mk_def T.f__law_any_text sc__law_any_text be__law_any_text (fun vs H Q E h => ?_) (fun cdv A outer s H vs Q E hr h => ?_)
  · obtain ⟨a, b, rfl, _⟩ := h
    rfl
  · obtain ⟨more, most, rfl, dr, m1, m6, k⟩ := h
    refine ⟨_, (pss_cons (ps_set (i := 2) sc__law_any_text.nd rfl (Or.inr rfl) pe_str)
      (pss_one (ps_ret (pe_join pe_str (pe_lc (own := [("j", 3)]) (g := gName 3) rfl sc__law_any_text.nd (pi_range1 (by rfl) T.b_range (pa_cons (pe_op op_mod (pv 0) (pe_op op_add (pv 1) pe_int)) pa_nil)) (blkOk_by (N := N__law_any_text) (sc := defScope s__law_any_text) (by decide +kernel)) (fun _ _ _ _ _ => by exact (pg_name (i := 3) sc__law_any_text.nd rfl (Or.inl rfl))) (fun _ _ _ _ _ => pts_nil) (fun _ _ _ _ _ => by exact (pe_ix ix_str (pv 2) (pe_op op_mod (pe_cd (D__law_drawn T) (by exact hr.mono (by first | decide | omega)) T.g__law_drawn passF (pa_cons (pv 0) (pa_cons (pv 3) pa_nil))) pe_int) (fun _ _ => rfl)))))))), ?_⟩
    walk_at "rd"
    have r0 : 0 ≤ more % (most + 1) := Int.emod_nonneg _ (by omega)
    have r1 : more % (most + 1) < most + 1 := Int.emod_lt_of_pos _ (by omega)
    refine ⟨⟨_, rfl⟩, lcR (n := more % (most + 1)) (fun i => some (.str ⟨#[sg (drawM more i % 94)]⟩)) (fun R h => ?_) (by omega) (fun i H' hi s1 N1 N0 h1 h0 => ?_) (fun D H' nD s1 eD => ?_)⟩
    · walk_at "rd"
      exact useI (by omega) h
    · walk_at "rd"
      have d0 : 0 ≤ drawM more i % 94 := Int.emod_nonneg _ (by decide)
      have d1 : drawM more i % 94 < 94 := Int.emod_lt_of_pos _ (by decide)
      refine ⟨more, i, rfl, more_abs dr, Nat.lt_trans (show (i : Int).natAbs < 2 ^ 10 by omega) (by decide), useI (by decide) ⟨_, _, _, rfl, rfl, by show 94 ≤ sizeLine; rw [sizeLine_eq]; omega, sg_at d0 d1, h1 _ _ (Same.refl _) rfl⟩⟩
    · have el : (List.range (more % (most + 1)).toNat).filterMap (fun i : Nat => some (V.str ⟨#[sg (drawM more i % 94)]⟩)) = ((List.range (more % (most + 1)).toNat).map fun i : Nat => (⟨#[sg (drawM more i % 94)]⟩ : Str)).map V.str := by
        rw [List.filterMap_eq_map', List.map_map]
        rfl
      rw [el] at eD
      have fin := k ((List.range (more % (most + 1)).toNat).map fun i : Nat => sg (drawM more i % 94)) H' (by rw [List.length_map, List.length_range]; omega) (fun c hc => by
        obtain ⟨i, _, rfl⟩ := List.mem_map.mp hc
        exact sg_ok (Int.emod_nonneg _ (by decide)) (Int.emod_lt_of_pos _ (by decide))) s1
      refine ⟨D, rfl, _, .inl (SqL.of eD), ?_, ?_⟩
      · have : ∀ l : List Nat, ((l.map fun i : Nat => (⟨#[sg (drawM more i % 94)]⟩ : Str)).map (·.length)).sum = l.length := fun l => by
          induction l with
          | nil => rfl
          | cons a r ih =>
            rw [List.map_cons, List.map_cons, List.sum_cons, ih]
            show 1 + r.length = r.length + 1
            omega
        rw [this, List.length_range, List.length_map, List.length_range]
        have z : (Str.ofString "").length = 0 := by decide +kernel
        rw [z]
        omega
      · rw [join_chars]
        exact fin
theorem textZ_of {l : List Nat} (h1 : 1 ≤ l.length) (h30 : l.length ≤ 30) (h : ∀ c ∈ l, signOk c = true) : textZ ⟨l.toArray⟩ = true := by
  unfold textZ
  have e : (⟨l.toArray⟩ : Str).length = l.length := by show l.toArray.size = _; simp
  rw [e, decide_eq_true h1, decide_eq_true h30]
  show (l.all signOk) = true
  exact List.all_eq_true.mpr h
theorem use_div {i j : Int} {H : Hp} {Q : VK} (q : Q (.int (i / j)) H) (h : 0 < j := by decide) (hb : j.natAbs < 2 ^ 64 := by decide) : rI CDivW (fun i j => V.int (i / j)) (.int i) (.int j) H Q := useI (wide_div (b := 64) h hb (by decide) (by decide)) q
theorem use_mod {i j : Int} {H : Hp} {Q : VK} (q : Q (.int (i % j)) H) (h : 0 < j := by decide) : rI (fun _ j => 0 < j) (fun i j => V.int (i % j)) (.int i) (.int j) H Q := useI h q
theorem use_pow {i j : Int} {H : Hp} {Q : VK} (q : Q (.int (i ^ j.toNat)) H) (h : CPow i j := by exact ⟨by decide, by decide, by decide⟩) : rI CPow (fun i j => V.int (i ^ j.toNat)) (.int i) (.int j) H Q := useI h q
theorem atI_ex {xs : List Int} {i : Int} (h0 : 0 ≤ i) (h1 : i < xs.length) : ∃ n ∈ xs, atI (xs.map V.int) i = some (.int n) := by
  have l : i.toNat < xs.length := by omega
  refine ⟨xs[i.toNat], List.getElem_mem l, ?_⟩
  rw [atI_nn h0 (by rw [List.length_map]; exact h1), List.getElem?_map, List.getElem?_eq_getElem l]
  rfl
theorem rep_text {c : Nat} {n : Int} (hc : signOk c = true) (h1 : 1 ≤ n) (h30 : n ≤ 30) : textZ (repS ⟨#[c]⟩ n) = true := by
  unfold repS
  rw [if_neg (by omega)]
  split
  · exact textZ_of (l := [c]) (by show 1 ≤ 1; omega) (by show 1 ≤ 30; omega) fun x hx => by
      rw [List.mem_singleton.mp hx]
      exact hc
  · have e : ((List.replicate n.toNat (⟨#[c]⟩ : Str).cps).foldl (· ++ ·) #[]) = (List.replicate n.toNat c).toArray := by
      apply Array.ext'
      rw [fold_rep]
      show [] ++ (List.replicate n.toNat [c]).flatten = List.replicate n.toNat c
      simp
    rw [e]
    exact textZ_of (by rw [List.length_replicate]; omega) (by rw [List.length_replicate]; omega) fun x hx => by
      rw [(List.mem_replicate.mp hx).2]
      exact hc
theorem app_text {l : List Nat} (hl : l.length ≤ 29) (h : ∀ c ∈ l, signOk c = true) : textZ ((⟨l.toArray⟩ : Str) ++ Str.ofString "x") = true := by
  have e : ((⟨l.toArray⟩ : Str) ++ Str.ofString "x") = ⟨(l ++ [120]).toArray⟩ := by
    have e1 : Str.ofString "x" = ⟨[120].toArray⟩ := by decide +kernel
    rw [e1]
    show (⟨l.toArray ++ [120].toArray⟩ : Str) = _
    simp
  rw [e]
  exact textZ_of (by simp) (by simp; omega) fun c hc => by
    rcases List.mem_append.mp hc with hc | hc
    · exact h c hc
    · rw [List.mem_singleton.mp hc]
      decide
theorem five30 (i : Int) : ∃ m, atI [V.int 5, V.int 30] (i % 2) = some (.int m) ∧ 1 ≤ m ∧ m ≤ 30 := by
  have h : i % 2 = 0 ∨ i % 2 = 1 := by omega
  rcases h with h | h <;> rw [h]
  · exact ⟨5, rfl, by decide, by decide⟩
  · exact ⟨30, rfl, by decide, by decide⟩
theorem ways5 (i : Int) : ∃ m, atI [V.int 1, V.int (-1), V.int 1, V.int (-1), V.int 0] (i % 5) = some (.int m) ∧ (m = 1 ∨ m = -1 ∨ m = 0) := by
  have h : i % 5 = 0 ∨ i % 5 = 1 ∨ i % 5 = 2 ∨ i % 5 = 3 ∨ i % 5 = 4 := by omega
  rcases h with h | h | h | h | h <;> rw [h]
  · exact ⟨1, rfl, by decide⟩
  · exact ⟨-1, rfl, by decide⟩
  · exact ⟨1, rfl, by decide⟩
  · exact ⟨-1, rfl, by decide⟩
  · exact ⟨0, rfl, by decide⟩
theorem ticks5 (i : Int) : ∃ m, atI [V.int 0, V.int 1, V.int 7, V.int 30, V.int 1000] (i % 5) = some (.int m) ∧ 0 ≤ m ∧ m ≤ 1000 := by
  have h : i % 5 = 0 ∨ i % 5 = 1 ∨ i % 5 = 2 ∨ i % 5 = 3 ∨ i % 5 = 4 := by omega
  rcases h with h | h | h | h | h <;> rw [h]
  · exact ⟨0, rfl, by decide⟩
  · exact ⟨1, rfl, by decide⟩
  · exact ⟨7, rfl, by decide⟩
  · exact ⟨30, rfl, by decide⟩
  · exact ⟨1000, rfl, by decide⟩
theorem names6 (i : Int) : ∃ b, atI [V.str (Str.ofString "ann"), V.str (Str.ofString "bob"), V.str (Str.ofString "cy"), V.str (Str.ofString "dd"), V.str (Str.ofString "eve"), V.str (Str.ofString "fay")] (i % 6) = some (.str b) ∧ nameZ b = true := by
  have h : i % 6 = 0 ∨ i % 6 = 1 ∨ i % 6 = 2 ∨ i % 6 = 3 ∨ i % 6 = 4 ∨ i % 6 = 5 := by omega
  rcases h with h | h | h | h | h | h <;> rw [h]
  · exact ⟨"ann", rfl, by decide +kernel⟩
  · exact ⟨"bob", rfl, by decide +kernel⟩
  · exact ⟨"cy", rfl, by decide +kernel⟩
  · exact ⟨"dd", rfl, by decide +kernel⟩
  · exact ⟨"eve", rfl, by decide +kernel⟩
  · exact ⟨"fay", rfl, by decide +kernel⟩
theorem signs8 (i : Int) : ∃ c, atI (Str.ofString "abc XY~!").cps.toList (i % 8) = some c ∧ signOk c = true := by
  have e : (Str.ofString "abc XY~!").cps.toList = [97, 98, 99, 32, 88, 89, 126, 33] := by decide +kernel
  rw [e]
  have h : i % 8 = 0 ∨ i % 8 = 1 ∨ i % 8 = 2 ∨ i % 8 = 3 ∨ i % 8 = 4 ∨ i % 8 = 5 ∨ i % 8 = 6 ∨ i % 8 = 7 := by omega
  rcases h with h | h | h | h | h | h | h | h <;> rw [h]
  all_goals exact ⟨_, rfl, by decide⟩
theorem deed_say {n : Int} {who text : Str} (h1 : nameZ who = true) (h2 : textZ text = true) : DeedOk (.say n who text) := by
  constructor
  · rintro n' who' text' (h | h) <;> cases h
    exact ⟨h1, h2⟩
  all_goals intros; rename_i h; cases h
theorem deed_change {n : Int} {who text : Str} (h1 : nameZ who = true) (h2 : textZ text = true) : DeedOk (.change n who text) := by
  constructor
  · rintro n' who' text' (h | h) <;> cases h
    exact ⟨h1, h2⟩
  all_goals intros; rename_i h; cases h
theorem deed_tick {k : Int} {who : Str} (h1 : 0 ≤ k) (h2 : k ≤ 1000) (h3 : nameZ who = true) : DeedOk (.tick k who) := by
  constructor
  · rintro n' who' text' (h | h) <;> cases h
  · intro k' who' h
    cases h
    exact ⟨h1, h2⟩
  · intro k' who' h
    cases h
    exact h3
  all_goals intros; rename_i h; cases h
theorem deed_strike {n : Int} {who : Str} (h1 : nameZ who = true) : DeedOk (.strike n who) := by
  constructor
  · rintro n' who' text' (h | h) <;> cases h
  · intros; rename_i h; cases h
  · intros; rename_i h; cases h
  · intro k' who' h
    cases h
    exact h1
  · intros; rename_i h; cases h
theorem deed_vote {n way : Int} {who : Str} (h1 : nameZ who = true) (h2 : way = 1 ∨ way = -1 ∨ way = 0) : DeedOk (.vote n who way) := by
  constructor
  · rintro n' who' text' (h | h) <;> cases h
  · intros; rename_i h; cases h
  · intros; rename_i h; cases h
  · intros; rename_i h; cases h
  · intro n' who' way' h
    cases h
    exact ⟨h1, h2⟩
def NamesOk (O : OLay) : Prop := ∀ e ∈ O.ents, nameZ e.row.who = true
def spDeed : Sp := fun vs H Q _ => ∃ (O : OLay) (more : Int), vs = [.int more, .ref O.p] ∧ drawR more ∧ OwnAt H O ∧ NamesOk O ∧ ∀ d p H', DeedOk d → H p = none → Same H H' → H' p = some (.tup d.tup) → Q (.ref p) H'
abbrev N__law_deed : List Str := ["more", "own", "here", "names", "numbers", "number", "by", "text", "way"]
theorem sc__law_deed : FnScope N__law_deed ["more", "own"] (defScope s__law_deed) := ⟨rfl, rfl, rfl, by decide +kernel, rfl, by decide +kernel, by decide +kernel⟩
theorem be__law_deed : BindEq "_law_deed" "_law_deed" s__law_deed ["more", "own"] := fun _ _ _ _ _ _ us hl => match us, hl with | [_, _], _ => rfl
theorem D__law_deed (T : Txt K mg base) : Def P w K mg base 3 (He.ga K "_law_deed") ["more", "own"] spDeed := by
  refine mk_def T.f__law_deed sc__law_deed be__law_deed (fun vs H Q E h => ?_) (fun cdv A outer s H vs Q E hr h => ?_)
  · obtain ⟨a, b, rfl, _⟩ := h
    rfl
  · obtain ⟨O, more, rfl, dr, W, nm, k⟩ := h
    refine ⟨_, (pss_cons (ps_set (i := 2) sc__law_deed.nd rfl (Or.inl rfl) (pe_op op_fdivW (pv 0) pe_int))
      (pss_cons (ps_set (i := 3) sc__law_deed.nd rfl (Or.inl rfl) (pe_lstS (pa_cons pe_str (pa_cons pe_str (pa_cons pe_str (pa_cons pe_str (pa_cons pe_str (pa_cons pe_str pa_nil))))))))
      (pss_cons (ps_set (i := 4) sc__law_deed.nd rfl (Or.inl rfl) (pe_op op_catN (pe_callB (call_sortedDN rfl) (by rfl) T.b_sorted (by decide +kernel) (pa_cons (pe_dg (pv 1) pe_str (by exact hu_of hr)) pa_nil)) (pe_lstS (pa_cons (pe_op op_add (pe_dg (pv 1) pe_str (by exact hu_of hr)) pe_int) pa_nil))))
      (pss_cons (ps_par (i := 5) (j := 6) (by rfl) sc__law_deed.nd rfl rfl (by decide) rfl rfl (pa_cons (pe_ix ix_list (pv 4) (pe_op op_mod (pv 2) (pe_callB call_len_seq (by rfl) T.b_len (by decide +kernel) (pa_cons (pv 4) pa_nil))) (fun _ _ => rfl)) (pa_cons (pe_ix ix_list (pv 3) (pe_op op_mod (pe_op op_fdivW (pv 2) pe_int) pe_int) (fun _ _ => rfl)) pa_nil)) (by rfl))
      (pss_cons (ps_set (i := 7) sc__law_deed.nd rfl (Or.inl rfl) (pe_op op_rep_str (pe_ix ix_str pe_str (pe_op op_mod (pe_op op_fdivW (pv 2) pe_int) pe_int) (fun _ _ => rfl)) (pe_op op_add pe_int (pe_op op_mod (pe_op op_fdivW (pv 2) pe_int) (pe_ix ix_list (pe_lstS (pa_cons pe_int (pa_cons pe_int pa_nil))) (pe_op op_mod (pe_op op_fdivW (pv 2) (pe_op op_pow pe_int pe_int)) pe_int) (fun _ _ => rfl))))))
      (C8.pss_cut (ps_if (PW.pt (pw_and (pt_cmpR op_eq (pe_op op_mod (pe_op op_fdivW (pv 2) (pe_op op_pow pe_int pe_int)) pe_int) pe_int (nomark _)) (pw_and1 (pt_cmpR op_ne (pe_op op_mod (pv 0) pe_int) pe_int (nomark _))))) (pss_one (ps_set (i := 7) sc__law_deed.nd rfl (Or.inl rfl) (pe_op op_add_str (pe_cd (D__law_any_text T) (by exact hr.mono (by first | decide | omega)) T.g__law_any_text passE (pa_cons (pe_op op_fdivW (pv 2) (pe_op op_pow pe_int pe_int)) (pa_cons pe_int pa_nil))) pe_str))) pss_nil)
      (C8.pss_cut (ps_if (pt_cmpR op_eq (pe_op op_mod (pe_op op_fdivW (pv 2) (pe_op op_pow pe_int pe_int)) pe_int) pe_int (nomark _)) (pss_one (ps_set (i := 6) sc__law_deed.nd rfl (Or.inl rfl) (pe_cd (D__law_any_name T) (by exact hr.mono (by first | decide | omega)) T.g__law_any_name passE (pa_cons (pe_op op_fdivW (pv 2) (pe_op op_pow pe_int pe_int)) (pa_cons pe_int pa_nil))))) pss_nil)
      (pss_cons (ps_set (i := 8) sc__law_deed.nd rfl (Or.inl rfl) (pe_op op_mod (pv 0) pe_int))
      (pss_cons (ps_if (pt_cmpR op_lt (pv 8) pe_int (nomark _)) (pss_one (ps_ret (pe_tupS (pa_cons pe_str (pa_cons (pe_ifExp (pt_cmpR op_lt (pv 8) pe_int (nomark _)) pe_int (pv 5)) (pa_cons (pv 6) (pa_cons (pv 7) pa_nil))))))) pss_nil)
      (pss_cons (ps_if (pt_cmpR op_lt (pv 8) pe_int (nomark _)) (pss_one (ps_ret (pe_tupS (pa_cons pe_str (pa_cons (pv 5) (pa_cons (pv 6) (pa_cons (pe_ix ix_list (pe_lstS (pa_cons pe_int (pa_cons (pe_un un_neg pe_int) (pa_cons pe_int (pa_cons (pe_un un_neg pe_int) (pa_cons pe_int pa_nil)))))) (pe_op op_mod (pe_op op_fdivW (pv 2) (pe_op op_pow pe_int pe_int)) pe_int) (fun _ _ => rfl)) pa_nil))))))) pss_nil)
      (pss_cons (ps_if (pt_cmpR op_eq (pv 8) pe_int (nomark _)) (pss_one (ps_ret (pe_tupS (pa_cons pe_str (pa_cons (pe_ix ix_list (pe_lstS (pa_cons pe_int (pa_cons pe_int (pa_cons pe_int (pa_cons pe_int (pa_cons pe_int pa_nil)))))) (pe_op op_mod (pe_op op_fdivW (pv 2) (pe_op op_pow pe_int pe_int)) pe_int) (fun _ _ => rfl)) (pa_cons (pv 6) pa_nil)))))) pss_nil)
      (C8.pss_cut (ps_if (PW.pt (pw_and (pt_cmp (pc_di (pv 5) (pe_dg (pv 1) pe_str (by exact hu_of hr)) (by exact hu_of hr))) (pw_and1 (pt_cmpR op_gt (pe_op op_mod (pe_op op_fdivW (pv 2) (pe_op op_pow pe_int pe_int)) pe_int) pe_int (nomark _))))) (pss_one (ps_set (i := 6) sc__law_deed.nd rfl (Or.inl rfl) (pe_dg (pe_dg (pe_dg (pv 1) pe_str (by exact hu_of hr)) (pv 5) (by exact hu_of hr)) pe_str (by exact hu_of hr)))) pss_nil)
      (pss_one (ps_ret (pe_ifExp (pt_cmpR op_lt (pv 8) pe_int (nomark _)) (pe_tupS (pa_cons pe_str (pa_cons (pv 5) (pa_cons (pv 6) pa_nil)))) (pe_tupS (pa_cons pe_str (pa_cons (pv 5) (pa_cons (pv 6) (pa_cons (pv 7) pa_nil)))))))))))))))))))), ?_⟩
    walk_at "rd"
    have z9 : (1000 : Nat) < sizeLine := by rw [sizeLine_eq]; omega
    have keys : (O.ents.map oK).map (·.1) = (O.ents.map (·.n)).map Sum.inl := by
      rw [List.map_map, List.map_map]
      rfl
    have sz := W.rd.sz
    have m0 : 0 ≤ more := dr.1
    refine use_div ⟨by omega, fun nl H1 n1 s1 e1 => ⟨_, g_rows (W.same s1).rd.top, _, _, _, rfl, .inl (W.same s1).dic, keys, by rw [List.length_map]; exact sz, fun ys hy _ p2 H2 n2 s2 e2 => ?_⟩⟩
    have W2 := W.same (s1.trans s2)
    have yl : ys.length < 64 := by
      rw [hy.length_eq, List.length_map]
      exact sz
    refine ⟨_, g_came W2.rd.top, _, rfl, by omega, fun p3 H3 n3 s3 e3 => ⟨p2, p3, _, _, rfl, rfl, s3 _ _ e2, e3, by rw [List.length_map]; show ys.length + 1 ≤ _; omega, fun p4 H4 n4 s4 e4 => ?_⟩⟩
    have e4 : H4 p4 = some (.lst ((ys ++ [O.came + 1]).map V.int)) := by rw [e4, List.map_append]; rfl
    have s14 := (s1.trans s2).trans (s3.trans s4)
    have h64 : 0 ≤ more / 64 := Int.ediv_nonneg m0 (by decide)
    have h64b : more / 64 ≤ more := Int.ediv_le_self _ m0
    generalize more / 64 = here at h64 h64b ⊢
    refine ⟨p4, rfl, _, .inl (SqL.of e4), use_mod ?_ (by rw [List.length_map, List.length_append]; show (0 : Int) < ((ys.length + 1 : Nat) : Int); omega)⟩
    rw [List.length_map]
    obtain ⟨n, _, hn⟩ := atI_ex (xs := ys ++ [O.came + 1]) (i := here % ((ys ++ [O.came + 1]).length : Int)) (Int.emod_nonneg _ (by rw [List.length_append]; show ((ys.length + 1 : Nat) : Int) ≠ 0; omega)) (Int.emod_lt_of_pos _ (by rw [List.length_append]; show (0 : Int) < ((ys.length + 1 : Nat) : Int); omega))
    obtain ⟨b, hb, nb⟩ := names6 (here / 128)
    obtain ⟨c, hc, nc⟩ := signs8 (here / 1024)
    refine ⟨p4, _, _, .int n, rfl, rfl, SqL.of e4, hn, use_div (use_mod ⟨nl, _, _, .str b, rfl, rfl, SqL.of ((s2.trans (s3.trans s4)) _ _ e1), hb, use_div (use_mod ⟨_, _, _, rfl, rfl, by show 8 ≤ sizeLine; omega, hc, use_div ⟨by omega, fun p5 H5 n5 s5 e5 => use_pow (use_div (use_mod ?_))⟩⟩)⟩)⟩
    obtain ⟨m, hm, m1, m30⟩ := five30 (here / 2 ^ (Int.toNat 20))
    refine ⟨p5, _, _, .int m, rfl, rfl, SqL.of e5, hm, use_mod ⟨_, rfl, _, _, rfl, rfl, ?_, ?_, by show 1 ≤ 1000; decide, ?_⟩ (by omega)⟩
    · have := Int.emod_nonneg (here / 8192) (show m ≠ 0 by omega)
      omega
    · have := Int.emod_lt_of_pos (here / 8192) (show 0 < m by omega)
      omega
    have r0 := Int.emod_nonneg (here / 8192) (show m ≠ 0 by omega)
    have r1 := Int.emod_lt_of_pos (here / 8192) (show 0 < m by omega)
    have tx := rep_text (c := c) (n := 1 + here / 8192 % m) nc (by omega) (by omega)
    generalize repS ⟨#[c]⟩ (1 + here / 8192 % m) = text at tx ⊢
    have s15 := s14.trans s5
    clear hm r0 r1 hc hn hb e1 e2 e3 n5 e5 n4 n3 n2 n1
    have hd30 : drawR (here / 2 ^ (Int.toNat 30)) := by
      have a : 0 ≤ here / 2 ^ (Int.toNat 30) := Int.ediv_nonneg h64 (by decide)
      have b : here / 2 ^ (Int.toNat 30) ≤ here := Int.ediv_le_self _ h64
      have c := dr.2
      exact ⟨a, by omega⟩
    refine ⟨fun σ' H' => ∃ tx, textZ tx = true ∧ σ' = [some (.int more), some (.ref O.p), some (.int here), some (.ref nl), some (.ref p4), some (.int n), some (.str b), some (.str tx), none] ∧ Same H H', ?_, ?_⟩
    · walk_at "rd"
      refine use_pow (use_div (use_mod ⟨rfl, ?_⟩))
      have keep : ∃ tx, textZ tx = true ∧ (V.str text = V.str tx) ∧ Same H H5 := ⟨text, tx, rfl, s15⟩
      by_cases c1 : here / 2 ^ (Int.toNat 22) % 4 = 0
      · rw [decide_eq_true (show V.int (here / 2 ^ (Int.toNat 22) % 4) = V.int 0 by rw [c1])]
        refine iteT (use_mod ⟨rfl, ?_⟩)
        by_cases c2 : more % 16 = 12
        · rw [decide_eq_true (show V.int (more % 16) = V.int 12 by rw [c2])]
          refine iteF ?_
          exact ⟨text, tx, rfl, s15⟩
        · rw [decide_eq_false (show ¬ V.int (more % 16) = V.int 12 from fun z => c2 (V.int.inj z))]
          refine iteT (use_pow (use_div ⟨_, _, rfl, hd30, by decide, by decide, fun l H6 hl hs s6 => ?_⟩))
          refine ⟨_, rfl, ?_, _, app_text hl hs, rfl, s15.trans s6⟩
          have l1 : (⟨l.toArray⟩ : Str).length = l.length := by show l.toArray.size = _; simp
          have l2 : (Str.ofString "x").length = 1 := by decide +kernel
          rw [l1, l2]
          omega
      · rw [decide_eq_false (show ¬ V.int (here / 2 ^ (Int.toNat 22) % 4) = V.int 0 from fun z => c1 (V.int.inj z))]
        refine iteF ?_
        exact ⟨text, tx, rfl, s15⟩
    · clear tx
      rintro σ' H6 ⟨tx, htx, rfl, s6⟩
      refine ⟨fun σ' H' => ∃ b, nameZ b = true ∧ σ' = [some (.int more), some (.ref O.p), some (.int here), some (.ref nl), some (.ref p4), some (.int n), some (.str b), some (.str tx), none] ∧ Same H H', ?_, ?_⟩
      · walk_at "rd"
        refine use_pow (use_div (use_mod ⟨rfl, ?_⟩))
        by_cases c1 : here / 2 ^ (Int.toNat 22) % 16 = 1
        · rw [decide_eq_true (show V.int (here / 2 ^ (Int.toNat 22) % 16) = V.int 1 by rw [c1])]
          refine iteT (use_pow (use_div ⟨_, _, rfl, hd30, by decide, by decide, fun z H7 hz s7 => ?_⟩))
          exact ⟨z, hz, rfl, s6.trans s7⟩
        · rw [decide_eq_false (show ¬ V.int (here / 2 ^ (Int.toNat 22) % 16) = V.int 1 from fun z => c1 (V.int.inj z))]
          exact iteF ⟨b, nb, rfl, s6⟩
      · clear nb
        rintro σ' H7 ⟨b, nb, rfl, s7⟩
        walk_at "rd"
        refine use_mod ?_
        have fin : ∀ {d : Deed} {H8 : Hp}, Same H7 H8 → DeedOk d → New (.tup d.tup) H8 Q := fun {d H8} s8 ok p H9 n9 s9 e9 => k d p H9 ok ((s7.trans s8).free n9) ((s7.trans s8).trans s9) e9
        obtain ⟨wv, hw, ww⟩ := ways5 (here / 2 ^ (Int.toNat 24))
        obtain ⟨tv, ht, t0, t1⟩ := ticks5 (here / 2 ^ (Int.toNat 24))
        generalize more % 16 = way
        refine ⟨way, rfl, ?_⟩
        by_cases c1 : way < 7
        · rw [decide_eq_true c1]
          refine iteT ⟨way, rfl, ?_⟩
          by_cases c2 : way < 2
          · rw [decide_eq_true c2]
            exact iteT ⟨by omega, fin (Same.refl _) (deed_say (n := 0) nb htx)⟩
          · rw [decide_eq_false c2]
            exact iteF ⟨by omega, fin (Same.refl _) (deed_say (n := n) nb htx)⟩
        · rw [decide_eq_false c1]
          refine iteF ⟨way, rfl, ?_⟩
          by_cases c2 : way < 12
          · rw [decide_eq_true c2]
            exact iteT ⟨by omega, fun p8 H8 n8 s8 e8 => use_pow (use_div (use_mod ⟨p8, _, _, .int wv, rfl, rfl, SqL.of e8, hw, by omega, fin s8 (deed_vote (n := n) nb ww)⟩))⟩
          · rw [decide_eq_false c2]
            refine iteF ⟨rfl, ?_⟩
            by_cases c3 : way = 12
            · rw [decide_eq_true (show V.int way = V.int 12 by rw [c3])]
              exact iteT ⟨by omega, fun p8 H8 n8 s8 e8 => use_pow (use_div (use_mod ⟨p8, _, _, .int tv, rfl, rfl, SqL.of e8, ht, by omega, fin s8 (deed_tick (who := b) t0 t1 nb)⟩))⟩
            · rw [decide_eq_false (show ¬ V.int way = V.int 12 from fun z => c3 (V.int.inj z))]
              have W7 := W.same s7
              refine iteF ⟨fun σ' H' => ∃ b, nameZ b = true ∧ σ' = [some (.int more), some (.ref O.p), some (.int here), some (.ref nl), some (.ref p4), some (.int n), some (.str b), some (.str tx), some (.int way)] ∧ H' = H7, ?_, ?_⟩
              · walk_at "rd"
                refine ⟨_, g_rows W7.rd.top, _, rfl, _, .inl ⟨_, Sum.inl n, .inl W7.dic, rfl, rfl⟩, ?_⟩
                rw [valV_oK]
                cases q : findO O.ents n with
                | none => exact iteF ⟨b, nb, rfl⟩
                | some e =>
                  refine iteT (use_pow (use_div (use_mod ⟨_, rfl, ?_⟩)))
                  by_cases c4 : 0 < here / 2 ^ (Int.toNat 24) % 8
                  · rw [decide_eq_true c4]
                    exact iteT ⟨_, g_rows W7.rd.top, _, rfl, _, W7.rd.at q, _, rfl, _, g_by (W7.rd.row e (findO_mem q).1), _, nm e (findO_mem q).1, rfl, rfl⟩
                  · rw [decide_eq_false c4]
                    exact iteF ⟨b, nb, rfl, rfl⟩
              · rintro σ' H' ⟨b, nb, rfl, rfl⟩
                walk_at "rd"
                by_cases c5 : way < 15
                · rw [decide_eq_true c5]
                  exact iteT ⟨by omega, fin (Same.refl _) (deed_strike (n := n) nb)⟩
                · rw [decide_eq_false c5]
                  exact iteF ⟨by omega, fin (Same.refl _) (deed_change (n := n) nb htx)⟩
end
end Vw
namespace Vw
open PySem PySem.Spec PyProof.Rows L2
/-! ### uses of the woods' functions where they go -/
theorem above_has0 {rs : Rows} (F : Wf rs) : ∀ (k : Nat) (n : Int), n.toNat ≤ k → (∃ r, findR rs n = some r) → (0 : Int) ∈ aboveR rs n
  | k, n, hk, ⟨r, hr⟩ => by
    rw [F.above hr]
    obtain ⟨_, u1, u2, u3⟩ := F.up hr
    rcases F.has _ (findR_mem hr) with z | z
    · have z : r.under = 0 := z
      rw [z]
      exact List.mem_cons_self
    · cases k with
      | zero => omega
      | succ k => exact List.mem_cons_of_mem _ (above_has0 F k r.under (by omega) z)
theorem beneath_zero {rs : Rows} (F : Wf rs) : beneathR rs 0 = rs.map (·.1) := by
  unfold beneathR
  refine List.filter_eq_self.mpr fun m hm => ?_
  obtain ⟨p, hp, rfl⟩ := List.mem_map.mp hm
  exact decide_eq_true (above_has0 F p.1.toNat p.1 (Nat.le_refl _) ⟨p.2, findR_of F.nk hp⟩)
theorem filter_keys {rs : Rows} (nk : (rs.map (·.1)).Nodup) (c : Int → Bool) (d : Row → Bool) : ((rs.map (·.1)).filter fun m => c m && (((findR rs m).map d).getD false)) = (rs.filter fun p => c p.1 && d p.2).map (·.1) := by
  rw [List.filter_map]
  congr 1
  refine List.filter_congr fun p hp => ?_
  show (c p.1 && (((findR rs p.1).map d).getD false)) = (c p.1 && d p.2)
  rw [findR_of nk hp]
  rfl
theorem many_eq {rs : Rows} (nk : (rs.map (·.1)).Nodup) (n : Int) : manyR rs n = (rs.filter fun p => decide (n ∈ aboveR rs p.1) && !p.2.struck).length := by
  unfold manyR beneathR
  rw [List.filter_filter]
  have e := congrArg List.length (filter_keys nk (fun m => decide (n ∈ aboveR rs m)) fun r => !r.struck)
  rw [List.length_map] at e
  rw [← e]
  congr 1
  refine List.filter_congr fun m _ => ?_
  exact Bool.and_comm _ _
theorem many_zero {rs : Rows} (F : Wf rs) : manyR rs 0 = (rs.filter fun p => !p.2.struck).length := by
  rw [many_eq F.nk]
  congr 1
  refine List.filter_congr fun p hp => ?_
  rw [decide_eq_true (above_has0 F p.1.toNat p.1 (Nat.le_refl _) ⟨p.2, findR_of F.nk hp⟩)]
  rfl
theorem OLay.keys (O : OLay) : O.ents.map (·.n) = O.rows.map (·.1) := by
  unfold OLay.rows
  rw [List.map_map]
  rfl
theorem Lay.keys (L : Lay) : L.ents.map (·.n) = L.rows.map (·.1) := by
  unfold Lay.rows
  rw [List.map_map]
  rfl
theorem Lay.elen (L : Lay) : L.ents.length = L.rows.length := by
  unfold Lay.rows
  rw [List.length_map]
section
variable {K : PySem.W.Frag} {H : Hp} {L : Lay} {O : OLay} {Q : VK} {E : XK} {n : Int}
theorem Good.l64 (G : Good L.wd) : L.ents.length < 64 := by
  rw [L.elen]
  have : L.rows.length ≤ 60 := G.len
  omega
theorem use_sortO (B : OwnRd H O) (q : New (.lst ((sortI (O.rows.map (·.1))).map V.int)) H Q) : rSortedDN [.ref O.d] H Q := by
  refine ⟨O.d, O.ents.map oK, O.ents.map (·.n), rfl, B.dic, ?_, by rw [List.length_map]; exact B.sz, fun ys hp hs => ?_⟩
  · rw [List.map_map, List.map_map]
    rfl
  · rw [O.keys] at hp
    rw [sortI_eq hp hs]
    exact q
theorem use_numbers (W : WoodAt K H L) (G : Good L.wd) (q : New (.lst ((sortI (L.rows.map (·.1))).map V.int)) H Q) : spNumbers K [.ref L.p] H Q E :=
  ⟨L, rfl, W, G.l64, fun p H' n s e => q p H' n s (by rw [← L.keys]; exact e)⟩
theorem use_neL {a b : Addr} {ns : List Int} (ha : H a = some (.lst (ns.map V.int))) (hb : H b = some (.lst (ns.map V.int))) (q : Q (.bl false) H) : rNeD K (.ref a) (.ref b) H Q := by
  refine use_neD (dp_ints ha) (dp_ints hb) (shaped_ints _) (shaped_ints _) ?_
  rw [eqv_ints, decide_eq_true rfl]
  exact q
theorem use_eqL {a b : Addr} {ns : List Int} (ha : H a = some (.lst (ns.map V.int))) (hb : H b = some (.lst (ns.map V.int))) (q : Q (.bl true) H) : rEqD K (.ref a) (.ref b) H Q := by
  refine use_eqD (dp_ints ha) (dp_ints hb) (shaped_ints _) (shaped_ints _) ?_
  rw [eqv_ints, decide_eq_true rfl]
  exact q
theorem Good.under (G : Good L.wd) (h : n = 0 ∨ ∃ r, findR L.rows n = some r) : underOk L.wd (.int n) = true := by
  show (decide (n = 0) || (decide (1 ≤ n) && decide (n ≤ L.came) && (findR L.rows n).isSome)) = true
  rcases h with h | ⟨r, h⟩
  · simp [h]
  · have h1 := (G.wf.up h).2.1
    have h2 : n ≤ L.came := G.le _ (findR_mem h)
    rw [h]
    simp
    right
    omega
theorem use_below (W : WoodAt K H L) (G : Good L.wd) (h : n = 0 ∨ ∃ r, findR L.rows n = some r) (q : New (.lst ((sortI (beneathR L.rows n)).map V.int)) H Q) : spBelow K 8 [.ref L.p, .int n] H Q E :=
  ⟨L, .int n, .int n, rfl, W, G, .int n, rfl, fun _ _ => by omega, (fun z => by rw [G.under h] at z; cases z), fun m e _ p H' np s hp => by cases e; exact q p H' np s hp⟩
theorem use_many (W : WoodAt K H L) (G : Good L.wd) (h : n = 0 ∨ ∃ r, findR L.rows n = some r) (q : ∀ H', Same H H' → Q (.int (manyR L.rows n : Nat)) H') : spMany K [.ref L.p, .int n] H Q E :=
  ⟨L, .int n, .int n, rfl, W, G, .int n, rfl, (fun z => by rw [G.under h] at z; cases z), fun m e _ H' s => by cases e; exact q H' s⟩
theorem use_replies (W : WoodAt K H L) (G : Good L.wd) (q : New (.lst ((sortI (repliesR L.rows n)).map V.int)) H Q) : spReplies K [.ref L.p, .int n] H Q E :=
  ⟨L, n, rfl, W, G.l64, fun p H' np s hp => q p H' np s hp⟩
theorem int_eq (a : Int) : decide (V.int a = V.int a) = true := decide_eq_true rfl
theorem tell_struck (r : Row) : (!decide (tellV r = V.non)) = !r.struck := by
  unfold tellV
  cases r.struck
  · rw [if_neg (by decide)]
    rfl
  · rw [if_pos rfl]
    rfl
end
theorem rows_eq {L : Lay} {O : OLay} (e : L.wd = O.wd) : O.rows = L.rows := (congrArg Wd.rows e).symm
theorem findO_of {es : List OEnt} (nk : (es.map (·.n)).Nodup) {e : OEnt} (he : e ∈ es) : findO es e.n = some e := by
  induction es with
  | nil => cases he
  | cons q r ih =>
    simp only [List.map_cons, List.nodup_cons] at nk
    unfold findO
    rw [List.find?_cons]
    rcases List.mem_cons.mp he with rfl | he
    · simp
    · have h : ¬ q.n = e.n := fun z => nk.1 (List.mem_map.mpr ⟨e, he, z.symm⟩)
      simp only [h, decide_false]
      exact ih nk.2 he
/-- over the keys of the own rows -/
theorem lcE {te0 : TE} {g : TG} {tt : TT} {te : TE} {vs : List Nat} {σ : L2.St} {H : Hp} {Q : VK} {O : OLay} (f : OEnt → Option V) (B : OwnAt H O) (src : ∀ (H' : Hp) (R : VK), H' O.p = some (.dK (ownK O.d O.came O.clock)) → R (.ref O.d) H' → te0 σ H' R)
    (hs : ∀ e H', e ∈ O.ents → OwnRd H' O → (∀ b o, b ≠ O.d → H b = some o → H' b = some o) → findO O.ents e.n = some e → Turn1 f g tt te vs σ H' e (.int e.n))
    (hd : ∀ D H', H D = none → Same H H' → H' D = some (.lst (O.ents.filterMap f)) → Q (.ref D) H') : tLockE (tLc (iKeys te0) g tt te vs) σ H Q := by
  refine lcK (l := O.ents) oK f B.dic (fun H' R kp h => src H' R (kp _ _ B.pd B.rd.top) h) (by rw [sizeLine_eq]; have := B.rd.sz; omega) (fun e H' od he kp hd => ?_) (fun D H' nD s1 eD => hd D H' nD s1 eD)
  exact hs e H' he (B.lock kp hd) kp (findO_of B.rd.nk he)
theorem rows_fm {β : Type} (O : OLay) (f : Int × Row → Option β) : O.ents.filterMap (fun e => f (e.n, e.row)) = O.rows.filterMap f := by
  unfold OLay.rows
  rw [List.filterMap_map]
  rfl
end Vw
namespace Vw
open PySem PySem.Spec PyProof.Rows L2
local macro_rules | `(tactic| walk_at "rd") => `(tactic| simp only [tSeq, tNext, tIfS, tAsg, tRet, tRetN, tDrop, tVar, tC, tOp, tUn, tTest, tB, tAnd, tOr, tNot, tAndV, tOrV, tNotV, tIf, tChain, tCB, tCons, tNil, tCall, tMeth, tMake, tFld, sFld, tTup, tLst, tTupS, tLstS, tDNewKS, tDNewTS, tTold, tCmp, t2I, tIsN, tNotN, tPar, gName, gNil, gCons, gTup, gSub, rI0, rU, rEq, rNe, tDGet, tDIn, tDNotIn, sDPut, tDNewK, tDGet1, tDGet2, tDPop1, tDPop2, tBM, tBM0, tM0, tM1, tSl, tPart, tNoPart, tBreak, tCont, tThru, L2.start, List.map_cons, List.map_nil, List.length_cons, List.length_nil, List.cons_append, List.nil_append, List.append_nil, List.replicate_succ, List.replicate_zero, Nat.reduceAdd, Nat.reduceSub, Nat.zero_add, List.getElem?_cons_zero, List.getElem?_cons_succ, List.set_cons_zero, List.set_cons_succ, wipe, cxOf_K, tYes, List.cons.injEq, and_self, Option.some.injEq, V.int.injEq, V.bl.injEq, V.ref.injEq, V.str.injEq, exists_eq_left', exists_eq_left, exists_and_left, and_assoc, true_and, and_true, if_true, if_false, ite_true, ite_false, Bool.not_true, Bool.not_false, Bool.false_eq_true, reduceIte])
section
variable {P : Program} {w : World} {K : PySem.W.Frag} {mg : Str → Option Value} {base : Heap}
def spLike (K : PySem.W.Frag) : Sp := fun vs H Q _ => ∃ (L : Lay) (O : OLay), vs = [.ref L.p, .ref O.p] ∧ WoodAt K H L ∧ OwnAt H O ∧ L.wd = O.wd ∧ Good L.wd ∧ VotesOk L.wd ∧ ∀ H', Same H H' → Q (.bl true) H'
abbrev N__law_like : List Str := ["wood", "own", "rows", "name", "mine", "number", "row"]
theorem sc__law_like : FnScope N__law_like ["wood", "own"] (defScope s__law_like) := ⟨rfl, rfl, rfl, by decide +kernel, rfl, by decide +kernel, by decide +kernel⟩
theorem be__law_like : BindEq "_law_like" "_law_like" s__law_like ["wood", "own"] := fun _ _ _ _ _ _ us hl => match us, hl with | [_, _], _ => rfl
theorem D__law_like (T : Txt K mg base) : Def P w K mg base 14 (He.ga K "_law_like") ["wood", "own"] (spLike K) := by
  refine mk_def T.f__law_like sc__law_like be__law_like (fun vs H Q E h => ?_) (fun cdv A outer s H vs Q E hr h => ?_)
  · obtain ⟨a, b, rfl, _⟩ := h
    rfl
  · obtain ⟨L, O, rfl, W, B, e, G, vo, k⟩ := h
    refine ⟨_, (pss_cons (ps_set (i := 2) sc__law_like.nd rfl (Or.inr rfl) (pe_dg (pv 1) pe_str (by exact hu_of hr)))
      (pss_cons (ps_if (PW.pt (pw_or (pt_ned (pe_md0 (pv 0) T.c_Wood.c T.m_Wood_numbers (D_Wood_numbers T) (by exact hr.mono (by first | decide | omega)) passE) (pe_callB (call_sortedDN rfl) (by rfl) T.b_sorted (by decide +kernel) (pa_cons (pv 2) pa_nil)) (by exact hr.units)) (pw_or (pt_cmpR op_ne (pe_md0 (pv 0) T.c_Wood.c T.m_Wood_now (D_Wood_now T) (by exact hr.mono (by first | decide | omega)) passE) (pe_dg (pv 1) pe_str (by exact hu_of hr)) (nomark _)) (pw_or1 (pt_ned (pe_md (pv 0) T.c_Wood.c T.m_Wood_below (D_Wood_below T) (by exact hr.mono (by first | decide | omega)) passE (pa_cons pe_int pa_nil)) (pe_callB (call_sortedDN rfl) (by rfl) T.b_sorted (by decide +kernel) (pa_cons (pv 2) pa_nil)) (by exact hr.units)))))) (pss_one (ps_ret pe_bl)) pss_nil)
      (pss_cons (ps_if (pt_cmpR op_ne (pe_md (pv 0) T.c_Wood.c T.m_Wood_many (D_Wood_many T) (by exact hr.mono (by first | decide | omega)) passE (pa_cons pe_int pa_nil)) (pe_callB call_len_seq (by rfl) T.b_len (by decide +kernel) (pa_cons (pe_lock (pe_lc (own := [("number", 5)]) (g := gName 5) rfl sc__law_like.nd (pi_keys (pv 2)) (blkOk_by (N := N__law_like) (sc := defScope s__law_like) (by decide +kernel)) (fun _ _ _ _ _ => by exact (pg_name (i := 5) sc__law_like.nd rfl (Or.inl rfl))) (fun _ _ _ _ _ => by exact (pts_one (pt_cmpR op_notN (pe_dg (pe_dg (pv 2) (pv 5) (by exact hu_of hr)) pe_str (by exact hu_of hr)) pe_non (nomark _)))) (fun _ _ _ _ _ => by exact (pv 5)))) pa_nil)) (nomark _)) (pss_one (ps_ret pe_bl)) pss_nil)
      (pss_cons (ps_for ownE rfl (pi_list (pe_lstS (pa_cons pe_str (pa_cons pe_str (pa_cons pe_str (pa_cons pe_str pa_nil)))))) (pg_name (i := 3) sc__law_like.nd rfl (Or.inr rfl))
      (pss_cons (ps_lock (ps_setLc (i := 4) (own := [("number", 5)]) (g := gName 5) rfl sc__law_like.nd rfl rfl (sw_true rfl rfl rfl (by decide +kernel)) (pi_keys (pv 2)) (blkOk_by (N := N__law_like) (sc := defScope s__law_like) (by decide +kernel)) (fun _ _ _ _ _ => by exact (pg_name (i := 5) sc__law_like.nd rfl (Or.inl rfl))) (fun _ _ _ _ _ => by exact (pts_one (pt_cmpR op_eq (pe_dg (pe_dg (pv 2) (pv 5) (by exact hu_of hr)) pe_str (by exact hu_of hr)) (pv 3) (nomark _)))) (fun _ _ _ _ _ => by exact (pe_dg (pv 2) (pv 5) (by exact hu_of hr)))))
      (pss_one (ps_if (pt_cmpR op_ne (pe_md (pv 0) T.c_Wood.c T.m_Wood_standing (D_Wood_standing T) (by exact hr.mono (by first | decide | omega)) passE (pa_cons (pv 3) pa_nil)) (pe_callB (cr_sum rfl) (by rfl) T.b_sum (by decide +kernel) (pa_cons (pe_lc (own := [("row", 6)]) (g := gName 6) rfl sc__law_like.nd (pi_list (pv 4)) (blkOk_by (N := N__law_like) (sc := defScope s__law_like) (by decide +kernel)) (fun _ _ _ _ _ => by exact (pg_name (i := 6) sc__law_like.nd rfl (Or.inl rfl))) (fun _ _ _ _ _ => by exact (pts_one (pt_cmpR op_notN (pe_dg (pv 6) pe_str (by exact hu_of hr)) pe_non (nomark _)))) (fun _ _ _ _ _ => by exact (pe_cd (D__law_points T) (by exact hr.mono (by first | decide | omega)) T.g__law_points passF (pa_cons (pv 6) pa_nil)))) pa_nil)) (nomark _)) (pss_one (ps_ret pe_bl)) pss_nil))))
      (pss_one (ps_ret (pe_eqd (pe_md (pv 0) T.c_Wood.c T.m_Wood_replies (D_Wood_replies T) (by exact hr.mono (by first | decide | omega)) passE (pa_cons pe_int pa_nil)) (pe_callB cr_sortedN (by rfl) T.b_sorted (by decide +kernel) (pa_cons (pe_lock (pe_lc (own := [("number", 5)]) (g := gName 5) rfl sc__law_like.nd (pi_keys (pv 2)) (blkOk_by (N := N__law_like) (sc := defScope s__law_like) (by decide +kernel)) (fun _ _ _ _ _ => by exact (pg_name (i := 5) sc__law_like.nd rfl (Or.inl rfl))) (fun _ _ _ _ _ => by exact (pts_one (pt_cmpR op_eq (pe_dg (pe_dg (pv 2) (pv 5) (by exact hu_of hr)) pe_str (by exact hu_of hr)) pe_int (nomark _)))) (fun _ _ _ _ _ => by exact (pv 5)))) pa_nil)) (by exact hr.units)))))))), ?_⟩
    walk_at "rd"
    have er := rows_eq e
    have F : Wf L.rows := G.wf
    have ec : O.clock = L.clock := (congrArg Wd.clock e).symm
    have z9 : (1000 : Nat) < sizeLine := by rw [sizeLine_eq]; omega
    have ln : L.rows.length ≤ 60 := G.len
    refine ⟨_, g_rows B.rd.top, _, _, W.top, fw_no _ _ _ (by decide) (by decide) (by decide), use_numbers W G fun p1 H1 n1 s1 e1 => use_sortO (B.rd.same s1) fun p2 H2 n2 s2 e2 => ?_⟩
    rw [er] at e2
    refine use_neL (s2 _ _ e1) e2 ⟨_, rfl, iteF ?_⟩
    have W2 := W.same (s1.trans s2)
    have B2 := B.same (s1.trans s2)
    refine ⟨_, _, W2.top, fw_no _ _ _ (by decide) (by decide) (by decide), L, rfl, W2, _, g_clock B2.rd.top, rfl, ?_⟩
    rw [ec, int_eq]
    refine iteF ⟨_, _, W2.top, fw_no _ _ _ (by decide) (by decide) (by decide), use_below W2 G (.inl rfl) fun p3 H3 n3 s3 e3 => use_sortO (B2.rd.same s3) fun p4 H4 n4 s4 e4 => ?_⟩
    rw [er] at e4
    rw [beneath_zero F] at e3
    have s14 := (s1.trans s2).trans (s3.trans s4)
    have W4 := W.same s14
    refine use_neL (s4 _ _ e3) e4 ⟨_, rfl, iteF ⟨_, _, W4.top, fw_no _ _ _ (by decide) (by decide) (by decide), use_many W4 G (.inl rfl) fun H5 s5 => ?_⟩⟩
    have s15 := s14.trans s5
    have W5 := W.same s15
    have B5 := B.same s15
    refine lcE (fun e => if e.row.struck = false then some (.int e.n) else none) B5 (fun H' R _ h => ⟨_, rfl, h⟩) (fun e H' he Bl _ fe N1 N0 h1 h0 => ?_) (fun D H6 nD s6 eD => ?_)
    · walk_at "rd"
      refine ⟨_, Bl.at fe, _, rfl, _, g_text (Bl.row e he), ?_⟩
      rw [tell_struck]
      cases c : e.row.struck with
      | false => exact iteT (h1 _ _ (Same.refl _) (if_pos c))
      | true => exact iteF (h0 _ (Same.refl _) (if_neg (by rw [c]; decide)))
    refine ⟨D, rfl, _, .inl (SqL.of eD), rfl, ?_⟩
    have l1 : (O.ents.filterMap fun e => if e.row.struck = false then some (V.int e.n) else none).length = manyR L.rows 0 := by
      rw [many_zero F, ← er, filterMap_if, List.length_map]
      unfold OLay.rows
      rw [List.filter_map, List.length_map]
      congr 1
      refine List.filter_congr fun e _ => ?_
      show decide (e.row.struck = false) = !e.row.struck
      cases e.row.struck <;> rfl
    rw [l1, int_eq]
    have s16 := s15.trans s6
    refine iteF (forL2 (l := [Str.ofString "ann", Str.ofString "bob", Str.ofString "cy", Str.ofString "zz"]) V.str (fun R h => ?_) (fun p i σ' H' => SqL K H' p (([Str.ofString "ann", Str.ofString "bob", Str.ofString "cy", Str.ofString "zz"] : List Str).map V.str) ∧ Same H H' ∧ ∃ x3 x4 x5 x6, σ' = [some (.ref L.p), some (.ref O.p), some (.ref O.d), x3, x4, x5, x6])
      (fun p H7 s7 h7 => ⟨h7, s16.trans s7, _, _, _, _, rfl⟩) (fun p i σ' H' _ h => h.1) (fun p i z σ' H7 D' hi h7 nx ct rt _ => ?_) (fun p σ' H7 h7 => ?_))
    · walk_at "rd"
      exact ⟨by omega, fun p7 H7 n7 s7 e7 => h p7 H7 s7 (SqL.of e7)⟩
    · obtain ⟨hp7, s7, x3, x4, x5, x6, rfl⟩ := h7
      have hz : nameZ z = true := by
        have m : z ∈ [Str.ofString "ann", Str.ofString "bob", Str.ofString "cy", Str.ofString "zz"] := List.mem_of_getElem? hi
        have all : ∀ z ∈ [Str.ofString "ann", Str.ofString "bob", Str.ofString "cy", Str.ofString "zz"], nameZ z = true := by decide +kernel
        exact all z m
      have W7 := W.same s7
      have B7 := B.same s7
      walk_at "rd"
      refine lkA (lcE (fun e => if e.row.who = z then some (.ref e.a) else none) B7 (fun H' R _ h => ⟨_, rfl, h⟩) (fun e H' he Bl _ fe N1 N0 h1 h0 => ?_) (fun D2 H8 nD2 s8 eD2 => ?_))
      · walk_at "rd"
        refine ⟨_, Bl.at fe, _, rfl, _, g_by (Bl.row e he), rfl, ?_⟩
        by_cases c : e.row.who = z
        · rw [decide_eq_true (show V.str e.row.who = V.str z by rw [c])]
          exact iteT ⟨_, Bl.at fe, h1 _ _ (Same.refl _) (if_pos c)⟩
        · rw [decide_eq_false (show ¬ V.str e.row.who = V.str z from fun q => c (V.str.inj q))]
          exact iteF (h0 _ (Same.refl _) (if_neg c))
      · rw [filterMap_if] at eD2
        walk_at "rd"
        have W8 := W7.same s8
        have B8 := B7.same s8
        refine ⟨_, _, W8.top, fw_no _ _ _ (by decide) (by decide) (by decide), use_standing W8 hz fun H9 s9 => ?_⟩
        have B9 := B8.same s9
        refine lcL (l := O.ents.filter fun e => decide (e.row.who = z)) (fun e => V.ref e.a) (fun e => if e.row.struck = false then some (.int (e.row.votes.map (·.2)).sum) else none) (fun R h => ⟨_, rfl, h D2 H9 (Same.refl _) (SqL.of (s9 _ _ eD2))⟩) (Nat.lt_of_le_of_lt (List.length_filter_le _ _) (by have := B.rd.sz; omega)) (fun e H' he s1 N1 N0 h1 h0 => ?_) (fun D3 H10 nD3 s10 eD3 => ?_)
        · have me := (List.mem_filter.mp he).1
          have B' := B9.same s1
          walk_at "rd"
          refine ⟨_, g_text (B'.rd.row e me), ?_⟩
          rw [tell_struck]
          cases c : e.row.struck with
          | false => exact iteT ⟨_, _, B'.rd.row e me, B'.rd.vot e me, B'.rd.ndv e me, B'.av e me e me, B'.rd.vsz e me, fun H11 s11 => h1 _ _ s11 (if_pos c)⟩
          | true => exact iteF (h0 _ (Same.refl _) (if_neg (by rw [c]; decide)))
        · have el : (O.ents.filter fun e => decide (e.row.who = z)).filterMap (fun e => if e.row.struck = false then some (V.int (e.row.votes.map (·.2)).sum) else none) = (((O.ents.filter fun e => decide (e.row.who = z)).filter fun e => decide (e.row.struck = false)).map fun e => (e.row.votes.map (·.2)).sum).map V.int := by
            rw [filterMap_if, List.map_map]
            rfl
          rw [el] at eD3
          refine ⟨D3, _, rfl, SqL.of eD3, rfl, ?_⟩
          have es : (((O.ents.filter fun e => decide (e.row.who = z)).filter fun e => decide (e.row.struck = false)).map fun e => (e.row.votes.map (·.2)).sum).sum = standingM L.wd z := by
            unfold standingM
            show _ = ((L.rows.filter _).map _).sum
            rw [← er, List.filter_filter]
            unfold OLay.rows
            rw [List.filter_map, List.map_map]
            congr 1
            have ef : (O.ents.filter fun e => decide (e.row.struck = false) && decide (e.row.who = z)) = O.ents.filter ((fun p : Int × Row => decide (p.2.who = z) && !p.2.struck) ∘ fun e => (e.n, e.row)) := by
              refine List.filter_congr fun e _ => ?_
              show (decide (e.row.struck = false) && decide (e.row.who = z)) = (decide (e.row.who = z) && !e.row.struck)
              cases e.row.struck <;> simp
            rw [ef]
            refine List.map_congr_left fun e he => ?_
            have me := (List.mem_filter.mp he).1
            have mr : (e.n, e.row) ∈ L.rows := by
              rw [← er]
              exact List.mem_map.mpr ⟨e, me, rfl⟩
            exact (points_sum fun v hv => vo _ mr v hv).symm
          rw [es, int_eq]
          have s710 := s8.trans (s9.trans s10)
          exact iteF (nx _ _ ⟨s710.seq hp7, s7.trans s710, _, _, _, _, rfl⟩)
    · obtain ⟨hp7, s7, x3, x4, x5, x6, rfl⟩ := h7
      have W7 := W.same s7
      walk_at "rd"
      refine ⟨_, _, W7.top, fw_no _ _ _ (by decide) (by decide) (by decide), use_replies W7 G fun p8 H8 n8 s8 e8 => ?_⟩
      have B8 := (B.same s7).same s8
      refine lcE (fun e => if e.row.under = 0 then some (.int e.n) else none) B8 (fun H' R _ h => ⟨_, rfl, h⟩) (fun e H' he Bl _ fe N1 N0 h1 h0 => ?_) (fun D2 H9 nD2 s9 eD2 => ?_)
      · walk_at "rd"
        refine ⟨_, Bl.at fe, _, rfl, _, g_under (Bl.row e he), rfl, ?_⟩
        by_cases c : e.row.under = 0
        · rw [decide_eq_true (show V.int e.row.under = V.int 0 by rw [c])]
          exact iteT (h1 _ _ (Same.refl _) (if_pos c))
        · rw [decide_eq_false (show ¬ V.int e.row.under = V.int 0 from fun q => c (V.int.inj q))]
          exact iteF (h0 _ (Same.refl _) (if_neg c))
      · have el : (O.ents.filterMap fun e => if e.row.under = 0 then some (V.int e.n) else none) = (repliesR L.rows 0).map V.int := by
          rw [filterMap_if, ← er]
          unfold repliesR OLay.rows
          rw [List.filter_map, List.map_map, List.map_map]
          rfl
        rw [el] at eD2
        refine ⟨D2, _, rfl, SqL.of eD2, ?_, fun ys hp hs p10 H10 n10 s10 e10 => use_eqL ((s9.trans s10) _ _ e8) (by rw [e10, sortI_eq hp hs]) (k H10 (s7.trans (s8.trans (s9.trans s10))))⟩
        unfold repliesR
        rw [List.length_map]
        exact Nat.lt_of_le_of_lt (List.length_filter_le _ _) (by omega)
end
end Vw
namespace Vw
open PySem PySem.Spec PyProof.Rows L2
local macro_rules | `(tactic| walk_at "rd") => `(tactic| simp only [tSeq, tNext, tIfS, tAsg, tRet, tRetN, tDrop, tVar, tC, tOp, tUn, tTest, tB, tAnd, tOr, tNot, tAndV, tOrV, tNotV, tIf, tChain, tCB, tCons, tNil, tCall, tMeth, tMake, tFld, sFld, tTup, tLst, tTupS, tLstS, tDNewKS, tDNewTS, tTold, tCmp, t2I, tIsN, tNotN, tPar, gName, gNil, gCons, gTup, gSub, rI0, rU, rEq, rNe, tDGet, tDIn, tDNotIn, sDPut, tDNewK, tDGet1, tDGet2, tDPop1, tDPop2, tBM, tBM0, tM0, tM1, tSl, tPart, tNoPart, tBreak, tCont, tThru, L2.start, List.map_cons, List.map_nil, List.length_cons, List.length_nil, List.cons_append, List.nil_append, List.append_nil, List.replicate_succ, List.replicate_zero, Nat.reduceAdd, Nat.reduceSub, Nat.zero_add, List.getElem?_cons_zero, List.getElem?_cons_succ, List.set_cons_zero, List.set_cons_succ, wipe, cxOf_K, tYes, List.cons.injEq, and_self, Option.some.injEq, V.int.injEq, V.bl.injEq, V.ref.injEq, V.str.injEq, exists_eq_left', exists_eq_left, exists_and_left, and_assoc, true_and, and_true, if_true, if_false, ite_true, ite_false, Bool.not_true, Bool.not_false, Bool.false_eq_true, reduceIte])
def RowOk (r : Row) : Prop := nameZ r.who = true ∧ (r.struck = false → textZ r.text = true) ∧ r.text.length ≤ 30
def RowsOk (M : Wd) : Prop := ∀ p ∈ M.rows, RowOk p.2
theorem text_len {z : Str} (h : textZ z = true) : z.length ≤ 30 := by
  unfold textZ at h
  simp only [Bool.and_eq_true, decide_eq_true_eq] at h
  exact h.1.2
theorem small_lt : ∀ c ∈ small, c < 0x110000 := by decide +kernel
theorem str_name {z : Str} (h : nameZ z = true) : PyData.strOk z = true := by
  unfold nameZ at h
  simp only [Bool.and_eq_true, decide_eq_true_eq, List.all_eq_true] at h
  unfold PyData.strOk
  rw [← Array.all_toList, List.all_eq_true]
  exact fun c hc => decide_eq_true (small_lt c (h.2 c hc))
theorem str_text {z : Str} (h : textZ z = true) : PyData.strOk z = true := by
  unfold textZ signOk at h
  simp only [Bool.and_eq_true, decide_eq_true_eq, List.all_eq_true] at h
  unfold PyData.strOk
  rw [← Array.all_toList, List.all_eq_true]
  exact fun c hc => decide_eq_true (by have := (h.2 c hc).1.2; omega)
def tellD (r : Row) : PyData := if r.struck = true then .none else .str r.text
def lookD (r : Row) : PyData := .tuple [.str r.who, .int r.under, tellD r, .int r.time]
def lookV (r : Row) : List V := [.str r.who, .int r.under, tellV r, .int r.time]
theorem dp_look {K : PySem.W.Frag} {H : Hp} {r : Row} {p : Addr} (h : H p = some (.tup (lookV r))) : Dp K H (.ref p) (lookD r) := by
  have ht : Dp K H (tellV r) (tellD r) := by
    unfold tellV tellD
    split
    · exact .non
    · exact .str _
  exact .tup (.inl (.inl h)) (.cons (.str _) (.cons (.int _) (.cons ht (.cons (.int _) .nil))))
theorem shaped_look {r : Row} (h : RowOk r) : SeqAt.shaped (lookD r) = true := by
  unfold lookD tellD
  have h1 := str_name h.1
  have h2' := h.2.1
  cases c : r.struck
  · have h2 := str_text (h2' c)
    rw [if_neg (by decide)]
    simp [SeqAt.shaped, PyData.canLay0, PyData.canLayAll0, PyData.depth, PyData.depthAll, h1, h2]
  · rw [if_pos rfl]
    simp [SeqAt.shaped, PyData.canLay0, PyData.canLayAll0, PyData.depth, PyData.depthAll, h1]
theorem eqv_look (r : Row) : PyData.eqv (lookD r) (lookD r) = true := by
  unfold lookD tellD
  cases r.struck
  · rw [if_neg (by decide)]
    simp [PyData.eqv, PyData.eqvAll]
  · rw [if_pos rfl]
    simp [PyData.eqv, PyData.eqvAll]
theorem ups_of {r : Row} (h : ∀ v ∈ r.votes, v.2 = 1 ∨ v.2 = -1) : ((r.votes.filter fun p => decide (p.2 = 1)).length : Int) = r.ups ∧ (r.votes.length : Int) - ((r.votes.filter fun p => decide (p.2 = 1)).length : Int) = r.downs := by
  unfold Row.ups Row.downs
  generalize r.votes = l at h
  induction l with
  | nil => exact ⟨rfl, rfl⟩
  | cons p t ih =>
    obtain ⟨b, w⟩ := p
    have q := ih fun v hv => h v (List.mem_cons_of_mem _ hv)
    have hw : w = 1 ∨ w = -1 := h (b, w) List.mem_cons_self
    rcases hw with e | e
    all_goals subst e; simp [List.filter_cons] at q ⊢; omega
theorem eqv_pair (a b : Int) : PyData.eqv (.tuple [.int a, .int b]) (.tuple [.int a, .int b]) = true := by simp [PyData.eqv, PyData.eqvAll]
theorem replies_of {rs : Rows} (F : Wf rs) (n : Int) : (beneathR rs n).filter (fun m => decide (upR rs m = n)) = repliesR rs n := by
  unfold beneathR repliesR
  rw [List.filter_filter, List.filter_map]
  congr 1
  refine List.filter_congr fun p hp => ?_
  show (decide (upR rs p.1 = n) && decide (n ∈ aboveR rs p.1)) = decide (p.2.under = n)
  have f := findR_of F.nk hp
  rw [(F.up f).1, F.above f]
  by_cases c : p.2.under = n
  · simp [c]
  · simp [c]
section
variable {P : Program} {w : World} {K : PySem.W.Frag} {mg : Str → Option Value} {base : Heap}
def spOneLike (K : PySem.W.Frag) : Sp := fun vs H Q _ => ∃ (L : Lay) (O : OLay) (n : Int), vs = [.ref L.p, .ref O.p, .int n] ∧ WoodAt K H L ∧ OwnAt H O ∧ L.wd = O.wd ∧ Good L.wd ∧ VotesOk L.wd ∧ RowsOk L.wd ∧ (∃ r, findR L.rows n = some r) ∧ ∀ H', Same H H' → Q (.bl true) H'
abbrev N__law_one_like : List Str := ["wood", "own", "number", "rows", "row", "ups", "beneath", "right", "one", "name"]
theorem sc__law_one_like : FnScope N__law_one_like ["wood", "own", "number"] (defScope s__law_one_like) := ⟨rfl, rfl, rfl, by decide +kernel, rfl, by decide +kernel, by decide +kernel⟩
theorem be__law_one_like : BindEq "_law_one_like" "_law_one_like" s__law_one_like ["wood", "own", "number"] := fun _ _ _ _ _ _ us hl => match us, hl with | [_, _, _], _ => rfl
theorem D__law_one_like (T : Txt K mg base) : Def P w K mg base 14 (He.ga K "_law_one_like") ["wood", "own", "number"] (spOneLike K) := by
  refine mk_def T.f__law_one_like sc__law_one_like be__law_one_like (fun vs H Q E h => ?_) (fun cdv A outer s H vs Q E hr h => ?_)
  · obtain ⟨a, b, c, rfl, _⟩ := h
    rfl
  · obtain ⟨L, O, n, rfl, W, B, e, G, vo, ro, ⟨r, hr1⟩, k⟩ := h
    refine ⟨_, (pss_cons (ps_set (i := 3) sc__law_one_like.nd rfl (Or.inr rfl) (pe_dg (pv 1) pe_str (by exact hu_of hr)))
      (pss_cons (ps_set (i := 4) sc__law_one_like.nd rfl (Or.inr rfl) (pe_dg (pv 3) (pv 2) (by exact hu_of hr)))
      (pss_cons (ps_if (pt_ned (pe_md (pv 0) T.c_Wood.c T.m_Wood_look (D_Wood_look T) (by exact hr.mono (by first | decide | omega)) passE (pa_cons (pv 2) pa_nil)) (pe_tupS (pa_cons (pe_dg (pv 4) pe_str (by exact hu_of hr)) (pa_cons (pe_dg (pv 4) pe_str (by exact hu_of hr)) (pa_cons (pe_dg (pv 4) pe_str (by exact hu_of hr)) (pa_cons (pe_dg (pv 4) pe_str (by exact hu_of hr)) pa_nil))))) (by exact hr.units)) (pss_one (ps_ret pe_bl)) pss_nil)
      (pss_cons (ps_set (i := 5) sc__law_one_like.nd rfl (Or.inl rfl) (pe_callB call_len_seq (by rfl) T.b_len (by decide +kernel) (pa_cons (pe_lock (pe_lc (own := [("name", 9)]) (g := gName 9) rfl sc__law_one_like.nd (pi_keys (pe_dg (pv 4) pe_str (by exact hu_of hr))) (blkOk_by (N := N__law_one_like) (sc := defScope s__law_one_like) (by decide +kernel)) (fun _ _ _ _ _ => by exact (pg_name (i := 9) sc__law_one_like.nd rfl (Or.inl rfl))) (fun _ _ _ _ _ => by exact (pts_one (pt_cmpR op_eq (pe_dg (pe_dg (pv 4) pe_str (by exact hu_of hr)) (pv 9) (by exact hu_of hr)) pe_int (nomark _)))) (fun _ _ _ _ _ => by exact (pv 9)))) pa_nil)))
      (pss_cons (ps_if (pt_ned (pe_md (pv 0) T.c_Wood.c T.m_Wood_votes_of (D_Wood_votes_of T) (by exact hr.mono (by first | decide | omega)) passE (pa_cons (pv 2) pa_nil)) (pe_tupS (pa_cons (pv 5) (pa_cons (pe_op op_sub (pe_callB call_lenD (by rfl) T.b_len (by decide +kernel) (pa_cons (pe_dg (pv 4) pe_str (by exact hu_of hr)) pa_nil)) (pv 5)) pa_nil))) (by exact hr.units)) (pss_one (ps_ret pe_bl)) pss_nil)
      (pss_cons (ps_set (i := 6) sc__law_one_like.nd rfl (Or.inl rfl) (pe_cd (D__law_beneath T) (by exact hr.mono (by first | decide | omega)) T.g__law_beneath passE (pa_cons (pv 1) (pa_cons (pv 2) pa_nil))))
      (pss_cons (ps_setLc (i := 7) (own := [("one", 8)]) (g := gName 8) rfl sc__law_one_like.nd rfl rfl (sw_true rfl rfl rfl (by decide +kernel)) (pi_list (pv 6)) (blkOk_by (N := N__law_one_like) (sc := defScope s__law_one_like) (by decide +kernel)) (fun _ _ _ _ _ => by exact (pg_name (i := 8) sc__law_one_like.nd rfl (Or.inl rfl))) (fun _ _ _ _ _ => by exact (pts_one (pt_cmpR op_eq (pe_dg (pe_dg (pv 3) (pv 8) (by exact hu_of hr)) pe_str (by exact hu_of hr)) (pv 2) (nomark _)))) (fun _ _ _ _ _ => by exact (pv 8)))
      (pss_cons (ps_if (PW.pt (pw_or (pt_ned (pe_md (pv 0) T.c_Wood.c T.m_Wood_below (D_Wood_below T) (by exact hr.mono (by first | decide | omega)) passE (pa_cons (pv 2) pa_nil)) (pv 6) (by exact hr.units)) (pw_or1 (pt_ned (pe_md (pv 0) T.c_Wood.c T.m_Wood_replies (D_Wood_replies T) (by exact hr.mono (by first | decide | omega)) passE (pa_cons (pv 2) pa_nil)) (pv 7) (by exact hr.units))))) (pss_one (ps_ret pe_bl)) pss_nil)
      (pss_one (ps_ret (pe_cmpR op_eq (pe_md (pv 0) T.c_Wood.c T.m_Wood_many (D_Wood_many T) (by exact hr.mono (by first | decide | omega)) passE (pa_cons (pv 2) pa_nil)) (pe_callB call_len_seq (by rfl) T.b_len (by decide +kernel) (pa_cons (pe_lc (own := [("one", 8)]) (g := gName 8) rfl sc__law_one_like.nd (pi_list (pv 6)) (blkOk_by (N := N__law_one_like) (sc := defScope s__law_one_like) (by decide +kernel)) (fun _ _ _ _ _ => by exact (pg_name (i := 8) sc__law_one_like.nd rfl (Or.inl rfl))) (fun _ _ _ _ _ => by exact (pts_one (pt_cmpR op_notN (pe_dg (pe_dg (pv 3) (pv 8) (by exact hu_of hr)) pe_str (by exact hu_of hr)) pe_non (nomark _)))) (fun _ _ _ _ _ => by exact (pv 8))) pa_nil)) (nomark _)))))))))))), ?_⟩
    walk_at "rd"
    have er := rows_eq e
    have F : Wf L.rows := G.wf
    have z9 : (1000 : Nat) < sizeLine := by rw [sizeLine_eq]; omega
    have ln : L.rows.length ≤ 60 := G.len
    have hr2 : findR O.rows n = some r := by rw [er]; exact hr1
    obtain ⟨en, fe, rfl⟩ := OLay.ent hr2
    have me := (findO_mem fe).1
    have mr : (n, en.row) ∈ L.rows := findR_mem hr1
    have ok := ro _ mr
    have sy : sayingM L.wd (.int n) = some (n, en.row) := by
      rw [sayingG G]
      show (findR L.rows n).map _ = _
      rw [hr1]
      rfl
    refine ⟨_, g_rows B.rd.top, _, rfl, _, B.rd.at fe, _, _, W.top, fw_no _ _ _ (by decide) (by decide) (by decide), use_look W sy fun p1 H1 n1 s1 e1 => ?_⟩
    have B1 := B.same s1
    refine ⟨_, rfl, _, g_by (B1.rd.row en me), _, rfl, _, g_under (B1.rd.row en me), _, rfl, _, g_text (B1.rd.row en me), _, rfl, _, g_time (B1.rd.row en me), by omega, fun p2 H2 n2 s2 e2 => ?_⟩
    refine use_neD (dp_look (s2 _ _ e1)) (dp_look e2) (shaped_look ok) (shaped_look ok) ⟨_, rfl, ?_⟩
    rw [eqv_look]
    have s12 := s1.trans s2
    have B2 := B.same s12
    have ra2 := B2.rd.row en me
    have rv2 := B2.rd.vot en me
    have nav := B.av en me en me
    refine iteF (lcK (l := en.row.votes) voteK (fun p => if p.2 = 1 then some (.str p.1) else none) rv2 (fun H' R kp h => ?_) (by rw [sizeLine_eq]; have := B.rd.vsz en me; omega) (fun v H' od hv kp hd N1 N0 h1 h0 => ?_) (fun D H3 nD s3 eD => ?_))
    · walk_at "rd"
      exact ⟨_, g_votes (kp _ _ nav ra2), h⟩
    · walk_at "rd"
      refine ⟨_, g_votes (kp _ _ nav ra2), _, rfl, _, .inl ⟨_, Sum.inr v.1, .inr ⟨od, hd⟩, rfl, (votes_at (B.rd.ndv en me) hv).symm⟩, rfl, ?_⟩
      by_cases c : v.2 = 1
      · rw [decide_eq_true (show V.int v.2 = V.int 1 by rw [c])]
        exact iteT (h1 _ _ (Same.refl _) (if_pos c))
      · rw [decide_eq_false (show ¬ V.int v.2 = V.int 1 from fun q => c (V.int.inj q))]
        exact iteF (h0 _ (Same.refl _) (if_neg c))
    have s13 := s12.trans s3
    have W3 := W.same s13
    refine ⟨D, rfl, _, .inl (SqL.of eD), _, _, W3.top, fw_no _ _ _ (by decide) (by decide) (by decide), use_votesOf W3 sy fun p4 H4 n4 s4 e4 => ?_⟩
    have B4 := (B.same s13).same s4
    refine ⟨_, rfl, _, g_votes (B4.rd.row en me), _, rfl, _, B4.rd.vot en me, by omega, fun p5 H5 n5 s5 e5 => ?_⟩
    obtain ⟨u1, u2⟩ := ups_of (r := en.row) fun v hv => vo _ mr v hv
    have l1 : ((en.row.votes.filterMap fun p => if p.2 = 1 then some (V.str p.1) else none).length : Int) = en.row.ups := by
      rw [filterMap_if, List.length_map]
      exact u1
    have l2 : ((votesK en.row.votes).length : Int) - ((en.row.votes.filterMap fun p => if p.2 = 1 then some (V.str p.1) else none).length : Int) = en.row.downs := by
      rw [filterMap_if, List.length_map]
      unfold votesK
      rw [List.length_map]
      exact u2
    rw [l2, l1] at e5
    refine use_neD (dp_int2 (s5 _ _ e4)) (dp_int2 e5) rfl rfl ⟨_, rfl, ?_⟩
    rw [eqv_pair]
    have s15 := s13.trans (s4.trans s5)
    have W5 := W.same s15
    have B5 := B.same s15
    refine iteF ⟨O, n, rfl, B5, by rw [er]; exact F, by rw [er]; exact fun p hp => G.dp p hp, fun p6 H6 n6 s6 e6 => ?_⟩
    rw [er] at e6
    have s16 := s15.trans s6
    have W6 := W.same s16
    have B6 := B.same s16
    have bl : (beneathR L.rows n).length ≤ 60 := by
      unfold beneathR
      exact Nat.le_trans (List.length_filter_le _ _) (by rw [List.length_map]; exact ln)
    refine lcL (l := sortI (beneathR L.rows n)) V.int (fun m => if upR L.rows m = n then some (.int m) else none) (fun R h => ⟨_, rfl, h p6 H6 (Same.refl _) (SqL.of e6)⟩) (by rw [sortI_length]; omega) (fun m H' hm s1 N1 N0 h1 h0 => ?_) (fun D2 H7 nD2 s7 eD2 => ?_)
    · have B' := B6.same s1
      obtain ⟨⟨rm, hrm⟩, _⟩ := mem_beneath.mp ((sortI_perm _).mem_iff.mp hm)
      have fm := findR_of F.nk hrm
      obtain ⟨em, fem, rfl⟩ := OLay.ent (O := O) (n := m) (r := rm) (by rw [er]; exact fm)
      have eu : upR L.rows m = em.row.under := by unfold upR; rw [fm]; rfl
      walk_at "rd"
      refine ⟨_, B'.rd.at fem, _, rfl, _, g_under (B'.rd.row em (findO_mem fem).1), rfl, ?_⟩
      by_cases c : em.row.under = n
      · rw [decide_eq_true (show V.int em.row.under = V.int n by rw [c])]
        exact iteT (h1 _ _ (Same.refl _) (if_pos (eu.trans c)))
      · rw [decide_eq_false (show ¬ V.int em.row.under = V.int n from fun q => c (V.int.inj q))]
        exact iteF (h0 _ (Same.refl _) (if_neg fun z => c (eu.symm.trans z)))
    rw [filterMap_if, filter_sortI, replies_of F] at eD2
    have s17 := s16.trans s7
    have W7 := W.same s17
    refine ⟨_, _, W7.top, fw_no _ _ _ (by decide) (by decide) (by decide), use_below W7 G (.inr ⟨_, hr1⟩) fun p8 H8 n8 s8 e8 => use_neL e8 ((s7.trans s8) _ _ e6) ⟨_, rfl, iteF ?_⟩⟩
    have W8 := W7.same s8
    refine ⟨_, _, W8.top, fw_no _ _ _ (by decide) (by decide) (by decide), use_replies W8 G fun p9 H9 n9 s9 e9 => use_neL e9 ((s8.trans s9) _ _ eD2) ⟨_, rfl, iteF ?_⟩⟩
    have W9 := W8.same s9
    refine ⟨_, _, W9.top, fw_no _ _ _ (by decide) (by decide) (by decide), use_many W9 G (.inr ⟨_, hr1⟩) fun H10 s10 => ?_⟩
    have s610 := s7.trans (s8.trans (s9.trans s10))
    have B10 := B6.same s610
    refine lcL (l := sortI (beneathR L.rows n)) V.int (fun m => if (((findR L.rows m).map fun r => !r.struck).getD false) = true then some (.int m) else none) (fun R h => ⟨_, rfl, h p6 H10 (Same.refl _) (SqL.of (s610 _ _ e6))⟩) (by rw [sortI_length]; omega) (fun m H' hm s1 N1 N0 h1 h0 => ?_) (fun D3 H11 nD3 s11 eD3 => ?_)
    · have B' := B10.same s1
      obtain ⟨⟨rm, hrm⟩, _⟩ := mem_beneath.mp ((sortI_perm _).mem_iff.mp hm)
      have fm := findR_of F.nk hrm
      obtain ⟨em, fem, rfl⟩ := OLay.ent (O := O) (n := m) (r := rm) (by rw [er]; exact fm)
      walk_at "rd"
      refine ⟨_, B'.rd.at fem, _, rfl, _, g_text (B'.rd.row em (findO_mem fem).1), ?_⟩
      rw [tell_struck]
      cases c : em.row.struck with
      | false => exact iteT (h1 _ _ (Same.refl _) (if_pos (by rw [fm]; simp [c])))
      | true => exact iteF (h0 _ (Same.refl _) (if_neg (by rw [fm]; simp [c])))
    refine ⟨D3, rfl, _, .inl (SqL.of eD3), rfl, ?_⟩
    have l3 : ((sortI (beneathR L.rows n)).filterMap fun m => if (((findR L.rows m).map fun r => !r.struck).getD false) = true then some (V.int m) else none).length = manyR L.rows n := by
      rw [filterMap_if, List.length_map]
      unfold manyR
      refine ((sortI_perm _).filter _).length_eq.trans ?_
      simp
    rw [l3, int_eq]
    exact k H11 (s16.trans (s610.trans s11))
end
end Vw
namespace Vw
open PySem PySem.Spec PyProof.Rows L2
/-! ### deeds keep a wood fine: plain law -/
structure Fine (M : Wd) (m : Nat) : Prop where
  G : Good M
  c0 : 0 ≤ M.came
  vo : VotesOk M
  ro : RowsOk M
  vl : ∀ p ∈ M.rows, p.2.votes.length ≤ m
  cm : M.came ≤ m
  k0 : 0 ≤ M.clock
  km : M.clock ≤ 1000 * m
  tm : ∀ p ∈ M.rows, 0 ≤ p.2.time ∧ p.2.time ≤ M.clock
  vn : ∀ p ∈ M.rows, ∀ v ∈ p.2.votes, nameZ v.1 = true
def actW (M : Wd) (d : Deed) : Wd := match actM M d with
  | .ok (_, M') => M'
  | .error _ => M
def valD : V → PyData
  | .int i => .int i
  | _ => .none
def refD (c : Str) : PyData := .tuple [.str "refused", .str c]
def actD (M : Wd) (d : Deed) : PyData := match actM M d with
  | .ok (v, _) => valD v
  | .error e => refD e.cls
theorem Fine.mono {M : Wd} {m k : Nat} (f : Fine M m) (h : m ≤ k) : Fine M k := ⟨f.G, f.c0, f.vo, f.ro, fun p hp => Nat.le_trans (f.vl p hp) h, by have := f.cm; omega, f.k0, by have := f.km; omega, f.tm, f.vn⟩
theorem ex_map {α β : Type} {x : Except Er α} {g : α → β} {y : β} (h : x.map g = .ok y) : ∃ a, x = .ok a ∧ g a = y := by
  cases x with
  | error e => cases h
  | ok a => exact ⟨a, rfl, by cases h; rfl⟩
theorem Fine.set {M : Wd} {m : Nat} (f : Fine M m) {n : Int} {r r' : Row} (h : findR M.rows n = some r) (hu : r'.under = r.under) (hw : r'.who = r.who) (htm : r'.time = r.time) (ht : (r'.struck = false → textZ r'.text = true) ∧ r'.text.length ≤ 30) (hv : ∀ v ∈ r'.votes, v.2 = 1 ∨ v.2 = -1) (hvn : ∀ v ∈ r'.votes, nameZ v.1 = true) (hl : r'.votes.length ≤ m + 1) : Fine { M with rows := setR M.rows n r' } (m + 1) := by
  have key : ∀ p ∈ setR M.rows n r', p = (n, r') ∨ p ∈ M.rows := fun p hp => (mem_setR hp).elim (fun z => .inl z.1) fun z => .inr z.1
  refine ⟨f.G.set h hu, f.c0, fun p hp => ?_, fun p hp => ?_, fun p hp => ?_, by have := f.cm; show M.came ≤ _; omega, f.k0, by have := f.km; show M.clock ≤ _; omega, fun p hp => ?_, fun p hp => ?_⟩
  · rcases key p hp with rfl | hp
    · exact hv
    · exact f.vo p hp
  · rcases key p hp with rfl | hp
    · exact ⟨by show nameZ r'.who = true; rw [hw]; exact (f.ro _ (findR_mem h)).1, ht⟩
    · exact f.ro p hp
  · rcases key p hp with rfl | hp
    · exact hl
    · exact Nat.le_succ_of_le (f.vl p hp)
  · rcases key p hp with rfl | hp
    · show 0 ≤ r'.time ∧ r'.time ≤ M.clock
      rw [htm]
      exact f.tm _ (findR_mem h)
    · exact f.tm p hp
  · rcases key p hp with rfl | hp
    · exact hvn
    · exact f.vn p hp
theorem gone_sub : ∀ (k : Nat) (rs : Rows) (n : Int), n.toNat ≤ k → ∀ p ∈ (goneR rs n).1, p ∈ rs
  | k, rs, n, hk, p, hp => by
    rw [goneR] at hp
    cases q : findR rs n with
    | none =>
      rw [q] at hp
      exact hp
    | some r =>
      rw [q] at hp
      dsimp only at hp
      split at hp
      · rename_i h
        cases k with
        | zero => omega
        | succ k => exact (List.mem_filter.mp (gone_sub k (dropR rs n) r.under (by omega) p hp)).1
      · exact hp
theorem own_ok {M : Wd} {d b : PyData} {n : Int} {r : Row} (h : ownM M d b = .ok (n, r)) : findR M.rows n = some r ∧ d = .int n := by
  unfold ownM at h
  split at h
  · cases h
  · rename_i n' r' hs
    split at h
    · cases h
    · split at h
      · cases h
        unfold sayingM at hs
        split at hs
        · rename_i k
          split at hs
          · cases q : findR M.rows k with
            | none => rw [q] at hs; cases hs
            | some r' =>
              rw [q] at hs
              cases hs
              exact ⟨q, rfl⟩
          · cases hs
        · cases hs
      · cases h
theorem Fine.act {M M' : Wd} {m : Nat} (f : Fine M m) {d : Deed} (ok : DeedOk d) {v : V} (h : actM M d = .ok (v, M')) : Fine M' (m + 1) := by
  cases d with
  | say n who text =>
    obtain ⟨nw, tw⟩ := ok.who (.inl rfl)
    obtain ⟨⟨k, M1⟩, hs, e⟩ := ex_map h
    cases e
    have hs : sayM M (.str who) (.int n) (.str text) = .ok (k, M1) := hs
    obtain ⟨g1, g2, _⟩ := f.G.say hs f.c0
    have key : ∀ p ∈ M1.rows, p.2 = ⟨who, n, text, M.clock, [], false⟩ ∨ p ∈ M.rows := fun p hp => by
      unfold sayM at hs
      split at hs
      · cases hs
      · split at hs
        · cases hs
        · split at hs
          · cases hs
          · dsimp only at hs
            split at hs
            · cases hs
            · cases hs
              rcases List.mem_append.mp hp with hp | hp
              · exact .inr hp
              · rw [List.mem_singleton.mp hp]
                exact .inl rfl
    have eck : M1.clock = M.clock := by
      unfold sayM at hs
      split at hs
      · cases hs
      · split at hs
        · cases hs
        · split at hs
          · cases hs
          · dsimp only at hs
            split at hs
            · cases hs
            · cases hs
              rfl
    refine ⟨g1, by have := f.c0; rw [g2]; omega, fun p hp => ?_, fun p hp => ?_, fun p hp => ?_, by have := f.cm; rw [g2]; omega, by rw [eck]; exact f.k0, by have := f.km; rw [eck]; omega, fun p hp => ?_, fun p hp => ?_⟩
    all_goals rcases key p hp with e | hp
    · rw [e]
      exact fun v hv => nomatch hv
    · exact f.vo p hp
    · rw [e]
      exact ⟨nw, fun _ => tw, text_len tw⟩
    · exact f.ro p hp
    · rw [e]
      exact Nat.zero_le _
    · exact Nat.le_succ_of_le (f.vl p hp)
    · rw [e, eck]
      exact ⟨f.k0, Int.le_refl _⟩
    · rw [eck]
      exact f.tm p hp
    · rw [e]
      exact fun v hv => nomatch hv
    · exact f.vn p hp
  | tick k who =>
    cases h
    obtain ⟨t0, t1⟩ := ok.tick rfl
    have a0 := f.k0
    have a1 := f.km
    exact ⟨⟨f.G.wf, f.G.le, f.G.dp, f.G.len⟩, f.c0, f.vo, f.ro, fun p hp => Nat.le_succ_of_le (f.vl p hp), by have := f.cm; show M.came ≤ _; omega, by show 0 ≤ M.clock + k; omega, by show M.clock + k ≤ _; omega, fun p hp => by
      have := f.tm p hp
      show _ ∧ _ ≤ M.clock + k
      omega, f.vn⟩
  | change n who text =>
    obtain ⟨nw, tw⟩ := ok.who (.inr rfl)
    obtain ⟨M1, hs, e⟩ := ex_map h
    have e : M1 = M' := by cases e; rfl
    subst e
    clear h
    unfold changeM at hs
    split at hs
    · cases hs
    · rename_i n' r ho
      obtain ⟨hf, _⟩ := own_ok ho
      have hs : (if textZ text = true then Except.ok { M with rows := setR M.rows n' { r with text := text } } else Except.error Er.text) = Except.ok M1 := hs
      rw [if_pos tw] at hs
      cases hs
      exact f.set hf rfl rfl rfl ⟨fun _ => tw, text_len tw⟩ (f.vo _ (findR_mem hf)) (f.vn _ (findR_mem hf)) (Nat.le_succ_of_le (f.vl _ (findR_mem hf)))
  | strike n who =>
    obtain ⟨⟨k, M1⟩, hs, e⟩ := ex_map h
    cases e
    unfold strikeM at hs
    split at hs
    · cases hs
    · rename_i n' r ho
      obtain ⟨hf, _⟩ := own_ok ho
      cases hs
      have fm := f.set (r' := { r with struck := true }) hf rfl rfl rfl ⟨(fun z => by cases z), (f.ro _ (findR_mem hf)).2.2⟩ (f.vo _ (findR_mem hf)) (f.vn _ (findR_mem hf)) (Nat.le_succ_of_le (f.vl _ (findR_mem hf)))
      have sub := gone_sub n'.toNat (setR M.rows n' { r with struck := true }) n' (Nat.le_refl _)
      exact ⟨Good.gone f.G n'.toNat _ n' (Nat.le_refl _) fm.G, f.c0, fun p hp => fm.vo p (sub p hp), fun p hp => fm.ro p (sub p hp), fun p hp => fm.vl p (sub p hp), fm.cm, fm.k0, fm.km, fun p hp => fm.tm p (sub p hp), fun p hp => fm.vn p (sub p hp)⟩
  | vote n who way =>
    obtain ⟨nw, ww⟩ := ok.vote rfl
    obtain ⟨⟨k, M1⟩, hs, e⟩ := ex_map h
    cases e
    unfold voteM at hs
    split at hs
    · cases hs
    · rename_i n' r ho
      have hf : findR M.rows n' = some r := by
        rw [sayingG f.G] at ho
        cases q : findR M.rows n with
        | none => rw [q] at ho; cases ho
        | some r' =>
          rw [q] at ho
          cases ho
          exact q
      split at hs
      · cases hs
      · split at hs
        · cases hs
        · dsimp only at hs
          split at hs
          · cases hs
          · cases hs
            have old := f.vo _ (findR_mem hf)
            refine f.set hf rfl rfl rfl (f.ro _ (findR_mem hf)).2 (fun v hv => ?_) (fun v hv => ?_) ?_
            · have hv : v ∈ votesM r.votes who way := hv
              unfold votesM at hv
              dsimp only at hv
              split at hv
              · exact old v (List.mem_filter.mp hv).1
              · rename_i w0
                rcases List.mem_append.mp hv with hv | hv
                · exact old v (List.mem_filter.mp hv).1
                · cases List.mem_singleton.mp hv
                  show way = 1 ∨ way = -1
                  omega
            · have oldn := f.vn _ (findR_mem hf)
              have hv : v ∈ votesM r.votes who way := hv
              unfold votesM at hv
              dsimp only at hv
              split at hv
              · exact oldn v (List.mem_filter.mp hv).1
              · rcases List.mem_append.mp hv with hv | hv
                · exact oldn v (List.mem_filter.mp hv).1
                · cases List.mem_singleton.mp hv
                  exact nw
            · show (votesM r.votes who way).length ≤ m + 1
              have l0 : (r.votes.filter fun p => decide (p.1 ≠ who)).length ≤ r.votes.length := List.length_filter_le _ _
              have l1 : r.votes.length ≤ m := f.vl _ (findR_mem hf)
              unfold votesM
              dsimp only
              split
              · omega
              · rw [List.length_append, List.length_singleton]
                omega
theorem Fine.actW {M : Wd} {m : Nat} (f : Fine M m) {d : Deed} (ok : DeedOk d) : Fine (actW M d) (m + 1) := by
  unfold Vw.actW
  split
  · rename_i h
    exact f.act ok h
  · exact f.mono (Nat.le_succ _)
theorem act_val {M M' : Wd} {d : Deed} {v : V} (h : actM M d = .ok (v, M')) : v = .non ∨ ∃ i, v = .int i := by
  cases d with
  | tick k who => cases h; exact .inl rfl
  | change n who text =>
    obtain ⟨_, _, e⟩ := ex_map h
    cases e
    exact .inl rfl
  | _ =>
    obtain ⟨_, _, e⟩ := ex_map h
    cases e
    exact .inr ⟨_, rfl⟩
theorem shaped_act (M : Wd) (d : Deed) : SeqAt.shaped (actD M d) = true := by
  unfold actD
  split
  · rename_i h
    rcases act_val h with rfl | ⟨i, rfl⟩ <;> rfl
  · rename_i e h
    cases e <;> decide +kernel
theorem eqv_act (M : Wd) (d : Deed) : PyData.eqv (actD M d) (actD M d) = true := by
  unfold actD
  split
  · rename_i h
    rcases act_val h with rfl | ⟨i, rfl⟩
    · rfl
    · show PyData.eqv (.int i) (.int i) = true
      rw [eqv_int]
      exact decide_eq_true rfl
  · simp [refD, PyData.eqv, PyData.eqvAll]
/-! ### both woods, apart -/
structure Pair (K : PySem.W.Frag) (H : Hp) (L : Lay) (O : OLay) : Prop where
  W : WoodAt K H L
  B : OwnAt H O
  ap : ∀ b ∈ foot L, b ∉ footO O
structure JStep (H : Hp) (L : Lay) (O : OLay) (H' : Hp) (L' : Lay) (O' : OLay) : Prop where
  p : L'.p = L.p
  q : O'.p = O.p
  keep : ∀ b o, b ∉ foot L → b ∉ footO O → H b = some o → (∀ ps, o ≠ .tbl ps) → H' b = some o
  new : ∀ b, b ∈ foot L' ∨ b ∈ footO O' → b ∈ foot L ∨ b ∈ footO O ∨ ∀ o, H b = some o → ∃ ps, o = .tbl ps
theorem JStep.ext {H H' : Hp} {L : Lay} {O : OLay} (s : LamX.ExtN H H') : JStep H L O H' L O := ⟨rfl, rfl, fun b o _ _ e n => s b o e n, fun b hb => hb.elim .inl fun z => .inr (.inl z)⟩
theorem JStep.same {H H' : Hp} {L : Lay} {O : OLay} (s : Same H H') : JStep H L O H' L O := JStep.ext (LamX.ExtN.of s)
theorem JStep.trans {H H1 H2 : Hp} {L L1 L2 : Lay} {O O1 O2 : OLay} (a : JStep H L O H1 L1 O1) (b : JStep H1 L1 O1 H2 L2 O2) : JStep H L O H2 L2 O2 := by
  have out : ∀ {c o}, c ∉ foot L → c ∉ footO O → H c = some o → (∀ ps, o ≠ .tbl ps) → ¬ (c ∈ foot L1 ∨ c ∈ footO O1) := fun {c o} h1 h2 e n h => by
    rcases a.new c h with z | z | z
    · exact h1 z
    · exact h2 z
    · obtain ⟨ps, q⟩ := z o e
      exact n ps q
  refine ⟨b.p.trans a.p, b.q.trans a.q, fun c o h1 h2 e n => b.keep c o (fun z => out h1 h2 e n (.inl z)) (fun z => out h1 h2 e n (.inr z)) (a.keep c o h1 h2 e n) n, fun c hc => ?_⟩
  rcases b.new c hc with z | z | z
  · exact a.new c (.inl z)
  · exact a.new c (.inr z)
  · by_cases h1 : c ∈ foot L
    · exact .inl h1
    · by_cases h2 : c ∈ footO O
      · exact .inr (.inl h2)
      · refine .inr (.inr fun o e => ?_)
        by_cases n : ∃ ps, o = .tbl ps
        · exact n
        · exact z o (a.keep c o h1 h2 e fun ps q => n ⟨ps, q⟩)
theorem footO_obj {H : Hp} {O : OLay} (B : OwnAt H O) {b : Addr} (hb : b ∈ footO O) : ∃ k, H b = some (.dK k) := by
  have q : b = O.p ∨ b = O.d ∨ b ∈ O.ents.map (·.a) ∨ b ∈ O.ents.map (·.v) := by
    unfold footO at hb
    simpa only [List.mem_cons, List.mem_append] using hb
  rcases q with rfl | rfl | q | q
  · exact ⟨_, B.rd.top⟩
  · exact ⟨_, B.dic⟩
  · obtain ⟨e, he, rfl⟩ := List.mem_map.mp q
    exact ⟨_, B.rd.row e he⟩
  · obtain ⟨e, he, rfl⟩ := List.mem_map.mp q
    exact ⟨_, B.rd.vot e he⟩
theorem foot_live {K : PySem.W.Frag} {H : Hp} {L : Lay} (W : WoodAt K H L) {b : Addr} (hb : b ∈ foot L) : ∃ o, H b = some o ∧ IsP o := by
  have q : b = L.p ∨ b = L.d ∨ b ∈ L.ents.map (·.a) ∨ b ∈ L.ents.map (·.v) := by
    unfold foot at hb
    simpa only [List.mem_cons, List.mem_append] using hb
  rcases q with rfl | rfl | q | q
  · exact ⟨_, W.top, .inl ⟨_, _, _, rfl⟩⟩
  · exact ⟨_, W.dic, .inr ⟨_, rfl⟩⟩
  · obtain ⟨e, he, rfl⟩ := List.mem_map.mp q
    exact ⟨_, (W.say e he).o, .inl ⟨_, _, _, rfl⟩⟩
  · obtain ⟨e, he, rfl⟩ := List.mem_map.mp q
    exact ⟨_, (W.say e he).d, .inr ⟨_, rfl⟩⟩
theorem OwnAt.wk {H H' : Hp} {O : OLay} (B : OwnAt H O) (s : ∀ b o, b ∈ footO O → H b = some o → H' b = some o) : OwnAt H' O := by
  have p : O.p ∈ footO O := List.mem_cons_self
  have d : O.d ∈ footO O := List.mem_cons_of_mem _ List.mem_cons_self
  have a : ∀ e ∈ O.ents, e.a ∈ footO O := fun e he => List.mem_cons_of_mem _ (List.mem_cons_of_mem _ (mem_foO_a he))
  have v : ∀ e ∈ O.ents, e.v ∈ footO O := fun e he => List.mem_cons_of_mem _ (List.mem_cons_of_mem _ (mem_foO_v he))
  exact ⟨⟨s _ _ p B.rd.top, .inl (s _ _ d B.dic), fun e he => s _ _ (a e he) (B.rd.row e he), fun e he => s _ _ (v e he) (B.rd.vot e he), B.rd.nk, B.rd.ndv, B.rd.sz, B.rd.vsz⟩, s _ _ d B.dic, B.nd⟩
theorem WoodAt.wkF {K : PySem.W.Frag} {H H' : Hp} {L : Lay} (W : WoodAt K H L) (s : ∀ b o, b ∈ foot L → H b = some o → H' b = some o) : WoodAt K H' L := by
  have p : L.p ∈ foot L := List.mem_cons_self
  have d : L.d ∈ foot L := List.mem_cons_of_mem _ List.mem_cons_self
  exact ⟨s _ _ p W.top, s _ _ d W.dic, fun e he => ⟨s _ _ (mem_foot_a he) (W.say e he).o, s _ _ (mem_foot_v he) (W.say e he).d, (W.say e he).nd, (W.say e he).sz⟩, W.nk, W.nda, W.ndv, W.dv, W.pa, W.sz⟩
theorem Pair.ext {K : PySem.W.Frag} {H H' : Hp} {L : Lay} {O : OLay} (P : Pair K H L O) (s : LamX.ExtN H H') : Pair K H' L O :=
  ⟨P.W.ext s, P.B.wk (fun b o hb e => s b o e fun ps z => by
    obtain ⟨k, hk⟩ := footO_obj P.B hb
    rw [e, z] at hk
    cases hk), P.ap⟩
theorem Pair.same {K : PySem.W.Frag} {H H' : Hp} {L : Lay} {O : OLay} (P : Pair K H L O) (s : Same H H') : Pair K H' L O := P.ext (LamX.ExtN.of s)
theorem isP_not_tbl {o : HO} (h : IsP o) : ∀ ps, o ≠ .tbl ps := fun ps z => by
  rw [z] at h
  exact not_tbl _ h
/-- lists, tuples and their like stay -/
theorem JStep.lk {K : PySem.W.Frag} {H H' : Hp} {L L' : Lay} {O O' : OLay} (J : JStep H L O H' L' O') (P : Pair K H L O) : LK H H' := fun b o h n m => by
  refine J.keep b o (fun hb => n (foot_obj P.W hb h)) (fun hb => ?_) h m
  obtain ⟨k, hk⟩ := footO_obj P.B hb
  rw [h] at hk
  cases hk
  exact n (.inr ⟨_, rfl⟩)
mutual
theorem dp_lk {K : PySem.W.Frag} {H H' : Hp} (s : LK H H') : ∀ {x : V} {d : PyData}, Dp K H x d → Dp K H' x d
  | _, _, .non => .non
  | _, _, .bl b => .bl b
  | _, _, .int i => .int i
  | _, _, .str z => .str z
  | _, _, .lst hs h => .lst (s.seq hs) (dps_lk s h)
  | _, _, .tup hs h => .tup (by
      rcases hs with (h | ⟨o, h⟩) | h
      · exact .inl (.inl (s.tup h))
      · exact .inl (.inr ⟨o, s _ _ h (not_frz _ _) (by intro t z; cases z)⟩)
      · exact .inr h) (dps_lk s h)
theorem dps_lk {K : PySem.W.Frag} {H H' : Hp} (s : LK H H') : ∀ {xs : List V} {ds : List PyData}, DpAll K H xs ds → DpAll K H' xs ds
  | _, _, .nil => .nil
  | _, _, .cons h t => .cons (dp_lk s h) (dps_lk s t)
end
theorem LK.sqt {K : PySem.W.Frag} {H H' : Hp} {a : Addr} {xs : List V} (k : LK H H') (h : SqT K H a xs) : SqT K H' a xs := by
  rcases h with (h | ⟨o, h⟩) | h
  · exact .inl (.inl (k.tup h))
  · exact .inl (.inr ⟨o, k _ _ h (not_frz _ _) (by intro t z; cases z)⟩)
  · exact .inr h
section
variable {K : PySem.W.Frag} {H : Hp} {L : Lay} {O : OLay} {Q : VK} {E : XK} {d : Deed} {p : Addr} {m : Nat}
theorem Fine.ents {L : Lay} {m : Nat} (f : Fine L.wd m) (hm : m ≤ 9000) : ∀ e ∈ L.ents, e.row.votes.length < 9999 := fun e he => by
  have := f.vl (e.n, e.row) (List.mem_map.mpr ⟨e, he, rfl⟩)
  have : e.row.votes.length ≤ m := this
  omega
theorem Fine.entsO {O : OLay} {m : Nat} (f : Fine O.wd m) (hm : m ≤ 9000) : ∀ e ∈ O.ents, e.row.votes.length < 9999 := fun e he => by
  have := f.vl (e.n, e.row) (List.mem_map.mpr ⟨e, he, rfl⟩)
  have : e.row.votes.length ≤ m := this
  omega
theorem use_do (P : Pair K H L O) (f : Fine L.wd m) (hm : m ≤ 9000) (ok : DeedOk d) (hp : SqT K H p d.tup) (hT : LamX.Tabs (tabs K) H)
    (k : ∀ v H' L', Pair K H' L' O → L'.wd = actW L.wd d → JStep H L O H' L' O → LamX.Tabs (tabs K) H' → Dp K H' v (actD L.wd d) → Q v H') : spDo K [.ref L.p, .ref p] H Q E := by
  refine ⟨L, p, d, rfl, hp, P.W, f.G, f.G.l64, ok, f.ents hm, hT, fun v M h H' L' W' e' S T' => ?_, fun e h r H' x T' hr => ?_⟩
  · refine k v H' L' ⟨W', P.B.wk fun b o hb e => S.keep b o (fun z => P.ap b z hb) e fun ps z => ?_, fun b hb hO => ?_⟩ ?_ ⟨S.p, rfl, fun b o h1 _ e n => S.keep b o h1 e n, fun b hb => ?_⟩ T' ?_
    · obtain ⟨k, hk⟩ := footO_obj P.B hb
      rw [e, z] at hk
      cases hk
    · obtain ⟨k, hk⟩ := footO_obj P.B hO
      rcases S.new b hb with z | z
      · exact P.ap b z hO
      · obtain ⟨ps, q⟩ := z _ hk
        cases q
    · rw [e']
      unfold actW
      rw [h]
    · rcases hb with hb | hb
      · rcases S.new b hb with z | z
        · exact .inl z
        · exact .inr (.inr z)
      · exact .inr (.inl hb)
    · unfold actD
      rw [h]
      rcases act_val h with rfl | ⟨i, rfl⟩
      · exact .non
      · exact .int i
  · refine k (.ref r) H' L (P.ext x) ?_ (JStep.ext x) T' ?_
    · unfold actW
      rw [h]
    · unfold actD
      rw [h]
      exact dp_refu hr
theorem use_act (P : Pair K H L O) (f : Fine O.wd m) (hm : m ≤ 9000) (ok : DeedOk d) (hp : SqT K H p d.tup)
    (k : ∀ v H' O', Pair K H' L O' → O'.wd = actW O.wd d → JStep H L O H' L O' → (LamX.Tabs (tabs K) H → LamX.Tabs (tabs K) H') → Dp K H' v (actD O.wd d) → Q v H') : spAct K [.ref O.p, .ref p] H Q E := by
  refine ⟨O, p, d, rfl, hp, P.B, f.G, ok, f.vo, f.entsO hm, fun v M h H' O' B' e' S => ?_, fun e h r H' n s hr => ?_⟩
  · refine k v H' O' ⟨P.W.wkF fun b o hb e => S.keep b o (fun z => P.ap b hb z) e, B', fun b hb hO => ?_⟩ ?_ ⟨rfl, S.p, fun b o _ h2 e n => S.keep b o h2 e, fun b hb => ?_⟩ (fun T' => ?_) ?_
    · obtain ⟨o, ho, _⟩ := foot_live P.W hb
      rcases S.new b hO with z | z
      · exact P.ap b hb z
      · rw [z] at ho
        cases ho
    · rw [e']
      unfold actW
      rw [h]
    · rcases hb with hb | hb
      · exact .inl hb
      · rcases S.new b hb with z | z
        · exact .inr (.inl z)
        · exact .inr (.inr fun o e => by rw [z] at e; cases e)
    · refine K2.tabs (fun b o e n => S.keep b o (fun z => ?_) e) T'
      obtain ⟨k, hk⟩ := footO_obj P.B z
      rw [e] at hk
      cases hk
      exact n (.inr ⟨_, rfl⟩)
    · unfold actD
      rw [h]
      rcases act_val h with rfl | ⟨i, rfl⟩
      · exact .non
      · exact .int i
  · refine k (.ref r) H' O (P.same s) ?_ (JStep.same s) (fun T' => T'.ext s) ?_
    · unfold actW
      rw [h]
    · unfold actD
      rw [h]
      exact dp_refu hr
/-- do, then act: they tell the same -/
theorem use_do_act (P : Pair K H L O) (e : L.wd = O.wd) (f : Fine L.wd m) (hm : m ≤ 9000) (ok : DeedOk d) (hp : SqT K H p d.tup) (hT : LamX.Tabs (tabs K) H)
    (k : ∀ H' L' O', Pair K H' L' O' → L'.wd = actW L.wd d → O'.wd = actW L.wd d → JStep H L O H' L' O' → LamX.Tabs (tabs K) H' → Q (.bl false) H') :
    spDo K [.ref L.p, .ref p] H (fun v H1 => spAct K [.ref O.p, .ref p] H1 (fun u H2 => rNeD K v u H2 Q) E) E := by
  refine use_do P f hm ok hp hT fun v H1 L1 P1 w1 J1 T1 d1 => ?_
  refine use_act P1 (e ▸ f) hm ok ((J1.lk P).sqt hp) fun u H2 O2 P2 w2 J2 T2 d2 => ?_
  rw [← e] at w2 d2
  refine use_neD (dp_lk (J2.lk P1) d1) d2 (shaped_act _ _) (shaped_act _ _) ?_
  rw [eqv_act]
  exact k H2 L1 O2 P2 w1 w2 (J1.trans J2) (T2 T1)
end
theorem act_nb (M : Wd) (d : Deed) (b : Bool) : actD M d ≠ .bool b := by
  unfold actD
  split
  · rename_i h
    rcases act_val h with rfl | ⟨i, rfl⟩ <;> (intro z; cases z)
  · intro z
    cases z
theorem new_pair {K : PySem.W.Frag} {H3 H4 : Hp} {p dx d po do_ : Addr} (W3 : WoodAt K H3 ⟨p, dx, d, [], 0, 0⟩) (np : H3 po = none) (nd : H3 do_ = none) (s4 : Same H3 H4) (B4 : OwnAt H4 ⟨po, do_, [], 0, 0⟩) : Pair K H4 ⟨p, dx, d, [], 0, 0⟩ ⟨po, do_, [], 0, 0⟩ := by
  refine ⟨W3.same s4, B4, fun b hb hO => ?_⟩
  obtain ⟨o, ho, _⟩ := foot_live W3 hb
  have q : b = po ∨ b = do_ := by
    have hO : b ∈ [po, do_] := hO
    simpa using hO
  rcases q with rfl | rfl
  · rw [np] at ho
    cases ho
  · rw [nd] at ho
    cases ho
theorem fine0 : Fine ⟨[], 0, 0⟩ 0 := by
  refine ⟨⟨⟨List.Pairwise.nil, ?_, ?_, ?_, ?_⟩, ?_, ?_, by decide⟩, Int.le_refl _, ?_, ?_, ?_, Int.le_refl _, Int.le_refl _, Int.le_refl _, ?_, ?_⟩
  all_goals intro p hp; cases hp
/-- a wood and the law's own, alike, behind m deeds -/
def Jn (K : PySem.W.Frag) (H : Hp) (pw po : Addr) (m : Nat) : Prop := ∃ (L : Lay) (O : OLay), L.p = pw ∧ O.p = po ∧ Pair K H L O ∧ L.wd = O.wd ∧ Fine L.wd m
theorem Jn.same {K : PySem.W.Frag} {H H' : Hp} {pw po : Addr} {m : Nat} (j : Jn K H pw po m) (s : Same H H') : Jn K H' pw po m := by
  obtain ⟨L, O, a, b, P, e, f⟩ := j
  exact ⟨L, O, a, b, P.same s, e, f⟩
theorem Fine.names {L : Lay} {O : OLay} {m : Nat} (f : Fine L.wd m) (e : L.wd = O.wd) : NamesOk O := fun x hx => by
  have h : (x.n, x.row) ∈ L.wd.rows := by
    rw [e]
    exact List.mem_map.mpr ⟨x, hx, rfl⟩
  exact (f.ro _ h).1
end Vw
namespace Vw
open PySem PySem.Spec PyProof.Rows L2
/-! ### loops over lists of any data; what is refused -/
theorem dps_get {K : PySem.W.Frag} {H : Hp} : ∀ {xs : List V} {ds : List PyData} {i : Nat} {x : V}, DpAll K H xs ds → xs[i]? = some x → ∃ d, ds[i]? = some d ∧ Dp K H x d
  | _, _, i, x, .nil, h => by simp at h
  | _, _, 0, x, .cons a t, h => by
    cases h
    exact ⟨_, rfl, a⟩
  | _, _, i + 1, x, .cons a t, h => by
    obtain ⟨d, h1, h2⟩ := dps_get (i := i) t (by simpa using h)
    exact ⟨d, by simpa using h1, h2⟩
theorem dps_len {K : PySem.W.Frag} {H : Hp} : ∀ {xs : List V} {ds : List PyData}, DpAll K H xs ds → xs.length = ds.length
  | _, _, .nil => rfl
  | _, _, .cons a t => by
    have := dps_len t
    simp [this]
theorem forD2 {K : PySem.W.Frag} {te0 : TE} {g : TG} {tb : TS} {D : Ends} {σ : L2.St} {H : Hp} (ds : List PyData) (src : ∀ R : VK, (∀ p H1 xs, Same H H1 → SqL K H1 p xs → DpAll K H1 xs ds → R (.ref p) H1) → te0 σ H R)
    (Pv : Nat → L2.St → Hp → Prop) (h0 : ∀ H1, Same H H1 → Pv 0 σ H1)
    (hs : ∀ i d x σ' H' (D' : Ends), ds[i]? = some d → Dp K H' x d → Pv i σ' H' → (∀ σ2 H2, Pv (i + 1) σ2 H2 → LK H' H2 → D'.nx σ2 H2) → (∀ σ2 H2, Pv (i + 1) σ2 H2 → LK H' H2 → D'.ct σ2 H2) → D'.rt = D.rt → D'.bk = D.nx → g x σ' H' fun σ2 H2 => tb D' σ2 H2)
    (hd : ∀ σ' H', Pv ds.length σ' H' → D.nx σ' H') : tFor (iList K te0) g tb D σ H := by
  refine src _ fun p H1 xs s1 hp hx => ⟨p, rfl, ⟨_, hp⟩, ?_⟩
  have ln := dps_len hx
  have w : Walk (Itl K p) xs.length (fun H => SqL K H p xs) (YAt xs) := walk_list (K := K) (a := p) (xs := xs)
  refine for_it w (fun i σ' H' => Pv i σ' H' ∧ SqL K H' p xs ∧ DpAll K H' xs ds) ⟨h0 H1 s1, hp, hx⟩ (fun i σ' H' _ h => h.2.1) (fun i x σ' H2 H3 hi p1 y => ?_) (fun σ' H' h => hd σ' H' (ln ▸ h.1))
  obtain ⟨rfl, hx2⟩ := y
  obtain ⟨d, h1, h2⟩ := dps_get p1.2.2 hx2
  exact hs i d x σ' _ _ h1 h2 p1.1 (fun σ2 H2 a b => ⟨a, b.seq p1.2.1, dps_lk b p1.2.2⟩) (fun σ2 H2 a b => ⟨a, b.seq p1.2.1, dps_lk b p1.2.2⟩) rfl rfl
section
variable {K : PySem.W.Frag} {H : Hp} {Q : VK} {e : Er}
theorem told_bad (h : e.cls ∈ errs) (q : ∀ r H', Same H H' → H' r = some (.tup [.str "refused", .str e.cls]) → Q (.ref r) H') : Bad K (eTold K errs Q) e H := ⟨e.cls, h, rfl, rfl, fun r H' n s hr => q r H' s hr⟩
theorem refu_ne {x : Str} {r r2 : Addr} (h1 : H r = some (.tup [.str "refused", .str x])) (h2 : H r2 = some (.tup [.str "refused", .str x])) (q : Q (.bl false) H) (hx : PyData.strOk x = true := by decide +kernel) : rNeD K (.ref r) (.ref r2) H Q := by
  have sh : SeqAt.shaped (.tuple [.str "refused", .str x]) = true := by
    have h0 : PyData.strOk "refused" = true := by decide +kernel
    simp [SeqAt.shaped, PyData.canLay0, PyData.canLayAll0, PyData.depth, PyData.depthAll, hx, h0]
  refine use_neD (dp_refu h1) (dp_refu h2) sh sh ?_
  have e : PyData.eqv (.tuple [.str "refused", .str x]) (.tuple [.str "refused", .str x]) = true := by simp [PyData.eqv, PyData.eqvAll]
  rw [e]
  exact q
end
end Vw
namespace Vw
open PySem PySem.Spec PyProof.Rows L2
/-! ### uses where a wood refuses -/
section
variable {K : PySem.W.Frag} {H : Hp} {L : Lay} {Q : VK} {E : XK} {x y z : V} {d b t : PyData} {e : Er}
theorem use_changeE (W : WoodAt K H L) (hx : Dp K H x d) (hy : Dp K H y b) (hz : Dp K H z t) (sb : Short b) (st : Short t) (h : changeM L.wd d b t = .error e) (q : ∀ H', Same H H' → Bad K E e H') : spChange K [.ref L.p, x, y, z] H Q E :=
  ⟨L, x, y, z, d, b, t, rfl, W, hx, hy, hz, sb, st, ⟨(fun M z => by rw [h] at z; cases z), fun e' z => by rw [h] at z; cases z; exact q⟩⟩
theorem use_strikeE (W : WoodAt K H L) (G : Good L.wd) (hx : Dp K H x d) (hy : Dp K H y b) (sb : Short b) (h : strikeM L.wd d b = .error e) (q : ∀ H', Same H H' → Bad K E e H') : spStrike K [.ref L.p, x, y] H Q E :=
  ⟨L, x, y, d, b, rfl, W, G.wf, G.l64, hx, hy, sb, (fun m M z => by rw [h] at z; cases z), fun e' z => by rw [h] at z; cases z; exact q⟩
theorem use_voteE (W : WoodAt K H L) (vl : ∀ e ∈ L.ents, e.row.votes.length < 99999) (hx : Dp K H x d) (hy : Dp K H y b) (hz : Dp K H z t) (sb : Short b) (h : voteM L.wd d b t = .error e) (q : ∀ H', Same H H' → Bad K E e H') : spVote K [.ref L.p, x, y, z] H Q E :=
  ⟨L, x, y, z, d, b, t, rfl, W, hx, hy, hz, sb, vl, (fun p M z => by rw [h] at z; cases z), fun e' z => by rw [h] at z; cases z; exact q⟩
theorem use_sayE (W : WoodAt K H L) (G : Good L.wd) (hx : Dp K H x b) (hy : Dp K H y d) (hz : Dp K H z t) (sb : Short b) (sd : SeqAt.shaped d = true) (st : Short t) (h : sayM L.wd b d t = .error e) (q : ∀ H', Same H H' → Bad K E e H') : spSay K [.ref L.p, x, y, z] H Q E :=
  ⟨L, x, y, z, b, d, t, rfl, W, G.wf, G.le, hx, hy, hz, sb, sd, st, (fun p M z => by rw [h] at z; cases z), fun e' z => by rw [h] at z; cases z; exact q⟩
theorem says_none (h : sayingM L.wd d = none) : sayingD L d = none := by
  rw [sayingME] at h
  cases q : sayingD L d with
  | none => rfl
  | some e => rw [q] at h; cases h
theorem use_lookE (W : WoodAt K H L) (hx : Dp K H x d) (h : sayingM L.wd d = none) (q : Bad K E .no H) : spLook K [.ref L.p, x] H Q E :=
  ⟨L, x, d, rfl, W, hx, (fun e he => by rw [says_none h] at he; cases he), fun _ => q⟩
theorem use_votesOfE (W : WoodAt K H L) (hx : Dp K H x d) (h : sayingM L.wd d = none) (q : Bad K E .no H) : spVotesOf K [.ref L.p, x] H Q E :=
  ⟨L, x, d, rfl, W, hx, (fun e he => by rw [says_none h] at he; cases he), fun _ => q⟩
theorem use_belowE (W : WoodAt K H L) (G : Good L.wd) (hx : Dp K H x d) (sd : SeqAt.shaped d = true) (h : underOk L.wd d = false) (q : Bad K E .no H) : spBelow K 8 [.ref L.p, x] H Q E :=
  ⟨L, x, d, rfl, W, G, hx, sd, fun _ _ => by omega, fun _ => q, fun n e z => by rw [h] at z; cases z⟩
theorem use_manyE (W : WoodAt K H L) (G : Good L.wd) (hx : Dp K H x d) (sd : SeqAt.shaped d = true) (h : underOk L.wd d = false) (q : Bad K E .no H) : spMany K [.ref L.p, x] H Q E :=
  ⟨L, x, d, rfl, W, G, hx, sd, fun _ => q, fun n e z => by rw [h] at z; cases z⟩
theorem use_standingE (W : WoodAt K H L) (hx : Dp K H x d) (sd : Short d) (h : nameOk d = false) (q : ∀ H', Same H H' → Bad K E .name H') : spStanding K [.ref L.p, x] H Q E :=
  ⟨L, x, d, rfl, W, hx, sd, fun _ => q, fun z e n => by rw [h] at n; cases n⟩
theorem use_tickE (W : WoodAt K H L) (hx : Dp K H x d) (h : isCount d 0 1000 = false) (q : Bad K E .number H) : spTick K [.ref L.p, x] H Q E :=
  ⟨L, x, d, rfl, W, hx, (fun n e z => by rw [h] at z; cases z), fun _ => q⟩
end
/-! ### a list of what was told -/
structure Sm (K : PySem.W.Frag) (H0 H : Hp) (L : Lay) (sl : Addr) (c : Str) (rs : List Addr) : Prop where
  x : LamX.ExtN H0 H
  n : ∀ o, H0 sl = some o → ∃ ps, o = .tbl ps
  W : WoodAt K H L
  T : LamX.Tabs (tabs K) H
  l : H sl = some (.lst (rs.map V.ref))
  t : ∀ r ∈ rs, H r = some (.tup [.str "refused", .str c])
theorem Sm.ext {K : PySem.W.Frag} {H0 H H' : Hp} {L : Lay} {sl : Addr} {c : Str} {rs : List Addr} (S : Sm K H0 H L sl c rs) (x : LamX.ExtN H H') (T : LamX.Tabs (tabs K) H') : Sm K H0 H' L sl c rs :=
  ⟨S.x.trans x, S.n, S.W.ext x, T, (LK.ext x).lst S.l, fun r hr => (LK.ext x).tup (S.t r hr)⟩
theorem Sm.ty {K : PySem.W.Frag} {H0 H : Hp} {L : Lay} {sl : Addr} {c : Str} {rs : List Addr} (S : Sm K H0 H L sl c rs) : tyV K "list" (V.ref sl) H := .inl ⟨rfl, _, SqL.of S.l⟩
theorem not_code_lst {xs : List V} : ∀ c q, HO.lst xs ≠ LamX.CodeO c q := by
  intro c q z
  unfold LamX.CodeO at z
  cases z
theorem WoodAt.updL {K : PySem.W.Frag} {H : Hp} {L : Lay} {d : Addr} {o : HO} {k : List V} (W : WoodAt K H L) (hd : H d = some (.lst k)) : WoodAt K (upd H d o) L := W.wk fun b u h p => by
  rw [upd_ne (fun z => by rw [z, hd] at h; cases h; exact not_lst _ p)]
  exact h
theorem upd_tabsL {T : List (Addr × Str)} {H : Hp} {d : Addr} {o : HO} {k : List V} (t : LamX.Tabs T H) (hd : H d = some (.lst k)) : LamX.Tabs T (upd H d o) := upd_tabs t hd (by intro ps z; cases z) not_code_lst
/-- some.append(told) -/
theorem Sm.app {K : PySem.W.Frag} {H0 H H' : Hp} {L : Lay} {sl r : Addr} {c : Str} {rs : List Addr} {Q : VK} (S : Sm K H0 H L sl c rs) (s : Same H H') (e : H' r = some (.tup [.str "refused", .str c])) (hl : rs.length < 100) (q : ∀ H2, Sm K H0 H2 L sl c (rs ++ [r]) → Q .non H2) : rAppend (.ref sl) [.ref r] H' Q := by
  have S' := S.ext (LamX.ExtN.of s) (S.T.ext s)
  have hne : ∀ {c : Addr} {xs : List V}, H' c = some (.tup xs) → c ≠ sl := fun {c xs} hc z => by
    rw [z, S'.l] at hc
    cases hc
  refine ⟨sl, _, _, rfl, rfl, S'.l, by rw [List.length_map, sizeLine_eq]; omega, q _ ⟨fun b o h n => ?_, S.n, S'.W.updL S'.l, upd_tabsL S'.T S'.l, ?_, fun r' hr' => ?_⟩⟩
  · rw [upd_ne (fun z => ?_)]
    · exact S'.x b o h n
    · rw [z] at h
      obtain ⟨ps, e⟩ := S.n o h
      exact n ps e
  · rw [upd_same, List.map_append]
    rfl
  · rcases List.mem_append.mp hr' with hr' | hr'
    · rw [upd_ne (hne (S'.t r' hr'))]
      exact S'.t r' hr'
    · rw [List.mem_singleton.mp hr', upd_ne (hne e)]
      exact e
theorem dps_refs {K : PySem.W.Frag} {H : Hp} {c : Str} : ∀ {rs : List Addr}, (∀ r ∈ rs, H r = some (.tup [.str "refused", .str c])) → DpAll K H (rs.map V.ref) (List.replicate rs.length (refD c))
  | [], _ => .nil
  | r :: t, h => .cons (dp_refu (h r List.mem_cons_self)) (dps_refs fun r hr => h r (List.mem_cons_of_mem _ hr))
theorem eqv_refs (c : Str) : ∀ n, PyData.eqvAll (List.replicate n (refD c)) (List.replicate n (refD c)) = true
  | 0 => by simp [PyData.eqvAll]
  | n + 1 => by
    rw [List.replicate_succ]
    simp [PyData.eqvAll, refD, PyData.eqv]
    exact eqv_refs c n
theorem shaped_refs {c : Str} (hx : PyData.strOk c = true) (n : Nat) : SeqAt.shaped (.list (List.replicate n (refD c))) = true := by
  have h0 : PyData.strOk "refused" = true := by decide +kernel
  have a : ∀ n, PyData.canLayAll0 (List.replicate n (refD c)) = true := fun n => by
    induction n with
    | zero => rfl
    | succ n ih => rw [List.replicate_succ]; simp [PyData.canLayAll0, refD, PyData.canLay0, hx, h0]; exact ih
  have b : ∀ n, PyData.depthAll (List.replicate n (refD c)) ≤ 5 := fun n => by
    induction n with
    | zero => exact Nat.zero_le _
    | succ n ih =>
      rw [List.replicate_succ]
      have : PyData.depth (refD c) ≤ 5 := by simp [refD, PyData.depth, PyData.depthAll]
      simp only [PyData.depthAll]
      omega
  have := b n
  simp [SeqAt.shaped, PyData.canLay0, PyData.depth, a n]
  omega
section
variable {K : PySem.W.Frag} {H0 H H' : Hp} {L : Lay} {sl t l : Addr} {c : Str} {rs : List Addr} {Q : VK} {k : Int}
theorem flat_rep {α : Type} (a : α) : ∀ n : Nat, (List.replicate n [a]).flatten = List.replicate n a
  | 0 => rfl
  | n + 1 => by rw [List.replicate_succ, List.flatten_cons, flat_rep a n, List.replicate_succ]; rfl
theorem dps_rep {x : V} {d : PyData} (h : Dp K H x d) : ∀ n, DpAll K H (List.replicate n x) (List.replicate n d)
  | 0 => .nil
  | n + 1 => by
    rw [List.replicate_succ, List.replicate_succ]
    exact .cons h (dps_rep h n)
theorem Sm.dp (S : Sm K H0 H L sl c rs) (s : Same H H') : Dp K H' (.ref sl) (.list (List.replicate rs.length (refD c))) := .lst (SqL.of (s _ _ S.l)) (dps_refs fun r hr => s _ _ (S.t r hr))
/-- some == [("refused", c)] * k -/
theorem Sm.eq (S : Sm K H0 H L sl c rs) (s : Same H H') (hk : rs.length = k.toNat) (ht : H' t = some (.tup [.str "refused", .str c])) (hl : H' l = some (.lst (List.replicate k.toNat [V.ref t]).flatten)) (q : Q (.bl true) H') (hx : PyData.strOk c = true := by decide +kernel) : rEqD K (.ref sl) (.ref l) H' Q := by
  rw [flat_rep] at hl
  refine use_eqD (S.dp s) (.lst (SqL.of hl) (dps_rep (dp_refu ht) _)) (shaped_refs hx _) (shaped_refs hx _) ?_
  have e : PyData.eqv (.list (List.replicate rs.length (refD c))) (.list (List.replicate k.toNat (refD c))) = true := by
    rw [hk]
    simp only [PyData.eqv]
    exact eqv_refs c _
  rw [show PyData.tuple [PyData.str (Str.ofString "refused"), PyData.str c] = refD c from rfl, e]
  exact q
theorem Sm.ne (S : Sm K H0 H L sl c rs) (s : Same H H') (hk : rs.length = k.toNat) (ht : H' t = some (.tup [.str "refused", .str c])) (hl : H' l = some (.lst (List.replicate k.toNat [V.ref t]).flatten)) (q : Q (.bl false) H') (hx : PyData.strOk c = true := by decide +kernel) : rNeD K (.ref sl) (.ref l) H' Q := by
  rw [flat_rep] at hl
  refine use_neD (S.dp s) (.lst (SqL.of hl) (dps_rep (dp_refu ht) _)) (shaped_refs hx _) (shaped_refs hx _) ?_
  have e : PyData.eqv (.list (List.replicate rs.length (refD c))) (.list (List.replicate k.toNat (refD c))) = true := by
    rw [hk]
    simp only [PyData.eqv]
    exact eqv_refs c _
  rw [show PyData.tuple [PyData.str (Str.ofString "refused"), PyData.str c] = refD c from rfl, e]
  exact q
/-- [told] -/
theorem Sm.one {H1 : Hp} {r : Addr} (W : WoodAt K H1 L) (T : LamX.Tabs (tabs K) H1) (x : LamX.ExtN H0 H1) (e : H1 r = some (.tup [.str "refused", .str c])) (q : ∀ sl H2, Sm K H0 H2 L sl c [r] → Q (.ref sl) H2) : New (.lst [.ref r]) H1 Q := fun sl H2 n2 s2 e2 =>
  q sl H2 ⟨x.trans (LamX.ExtN.of s2), (fun o h => by
    by_cases c : ∃ ps, o = .tbl ps
    · exact c
    · have := x sl o h fun ps z => c ⟨ps, z⟩
      rw [n2] at this
      cases this), W.same s2, T.ext s2, e2, (fun r' hr' => by
    rw [List.mem_singleton.mp hr']
    exact s2 _ _ e)⟩
end
end Vw
namespace Vw
open PySem PySem.Spec PyProof.Rows L2
section
variable {X : Cx}
/-- dict(pairs), dict(d): all but the new dict forgotten -/
def rDictP (K : PySem.W.Frag) : List V → Hp → VK → Prop := fun xs H Q => ∃ (a : Addr) (ps : List Addr) (kvs : List (Key × V)), xs = [.ref a] ∧ SqL K H a (ps.map V.ref) ∧ Paired (fun p kv => SqT K H p [kV kv.1, kv.2]) ps kvs ∧ New (.dK (mergeK [] kvs)) H Q
theorem call_dictPN (hc : X.calm = true) : CallR X (.type "dict") (rDictP X.K) := fun pins s σ H vs us Q I r h => by
  obtain ⟨a, ps, kvs, h1, h2, h3, h4⟩ := h
  exact call_dictP hc pins s σ H vs us Q I r ⟨a, ps, kvs, h1, h2, h3, h4.use⟩
def rDictD : List V → Hp → VK → Prop := fun xs H Q => ∃ (a : Addr) (kvs : List (Key × V)), xs = [.ref a] ∧ Rd H a (.dK kvs) ∧ New (.dK kvs) H Q
theorem call_dictDN : CallR X (.type "dict") rDictD := fun pins s σ H vs us Q I r h => by
  obtain ⟨a, kvs, h1, h2, h3⟩ := h
  exact call_dictD pins s σ H vs us Q I r ⟨a, kvs, h1, h2, h3.use⟩
theorem call_isiK (K : PySem.W.Frag) (hK : X.K = K := by rfl) : CallR X (.builtin "isinstance") (rIsi K) := by
  subst hK
  exact call_isi
end
theorem mergeK_app : ∀ (l acc : List (Key × V)), ((acc ++ l).map (·.1)).Nodup → mergeK acc l = acc ++ l
  | [], acc, _ => by simp [mergeK]
  | p :: r, acc, h => by
    have e : putK acc p.1 p.2 = acc ++ [p] := by
      unfold putK
      rw [if_neg]
      intro z
      obtain ⟨q, hq, e⟩ := List.any_eq_true.mp z
      have e := of_decide_eq_true e
      rw [List.map_append] at h
      have := (List.nodup_append.mp h).2.2 q.1 (List.mem_map.mpr ⟨q, hq, rfl⟩) p.1 (by simp)
      exact this e
    show mergeK (putK acc p.1 p.2) r = _
    rw [e, mergeK_app r (acc ++ [p]) (by rw [List.append_assoc]; exact h), List.append_assoc]
    rfl
theorem mergeK_nil {l : List (Key × V)} (h : (l.map (·.1)).Nodup) : mergeK [] l = l := by
  rw [mergeK_app l [] h]
  rfl
end Vw
namespace Vw
open PySem PySem.Spec PyProof.Rows L2
/-! ### comprehensions whose elements are new tuples -/
/-- tuples stand at these places -/
abbrev TupsAt (H : Hp) (qs : List Addr) (vss : List (List V)) : Prop := Paired (fun q vs => H q = some (.tup vs)) qs vss
theorem Paired.imp {α β : Type} {F G : α → β → Prop} (h : ∀ a b, F a b → G a b) : ∀ {l : List α} {m : List β}, Paired F l m → Paired G l m
  | _, _, .nil => .nil
  | _, _, .cons a t => .cons (h _ _ a) (Paired.imp h t)
theorem Paired.app {α β : Type} {F : α → β → Prop} : ∀ {l l' : List α} {m m' : List β}, Paired F l m → Paired F l' m' → Paired F (l ++ l') (m ++ m')
  | _, _, _, _, .nil, h => h
  | _, _, _, _, .cons a t, h => .cons a (Paired.app t h)
theorem TupsAt.keep {H H' : Hp} {qs : List Addr} {vss : List (List V)} (h : TupsAt H qs vss) (k : ∀ b xs, H b = some (.tup xs) → H' b = some (.tup xs)) : TupsAt H' qs vss := Paired.imp (fun q vs e => k q vs e) h
theorem TupsAt.same {H H' : Hp} {qs : List Addr} {vss : List (List V)} (h : TupsAt H qs vss) (s : Same H H') : TupsAt H' qs vss := h.keep fun b xs e => s _ _ e
theorem TupsAt.upd {H : Hp} {D : Addr} {acc : List V} {o : HO} {qs : List Addr} {vss : List (List V)} (h : TupsAt H qs vss) (e : H D = some (.lst acc)) : TupsAt (L2.upd H D o) qs vss := h.keep fun b xs q => by
  rw [upd_ne (fun z => by rw [z, e] at q; cases q)]
  exact q
theorem lc_roT {α : Type} {J : It} {G : Hp → Prop} {Y : Nat → Hp → V → Hp → Prop} (l : List α) (w : Walk J l.length G Y) (f : α → Option (List V)) {g : TG} {tt : TT} {te : TE} {vs : List Nat} {σ : L2.St} {H1 : Hp} {D : Addr} {Qd : Hp → Prop}
    (hn : l.length < sizeLine) (hD : H1 D = none) (hG : ∀ H, Same H1 H → G H)
    (hs : ∀ i a x H H', l[i]? = some a → Same H1 H → Y i H x H' → ∀ (N1 : V → Hp → Prop) (N0 : Hp → Prop), (∀ q us H4, Same H H4 → f a = some us → H4 q = some (.tup us) → N1 (.ref q) H4) → (∀ H3, Same H H3 → f a = none → N0 H3) →
      g x (wipe σ vs) H' fun σ2 H2 => wipe σ2 vs = wipe σ vs ∧ tt σ2 H2 fun b H3 => if b = true then te σ2 H3 N1 else N0 H3)
    (hd : ∀ H qs, Same H1 H → H D = some (.lst (qs.map V.ref)) → TupsAt H qs (l.filterMap f) → Qd H) :
    ∃ W : Nat → Nat → Hp → Prop, (∃ m, W 0 m (upd H1 D (.lst []))) ∧ ∀ i m H, W i m H →
      (J.stop i H ∧ Qd H) ∨ (J.go i H ∧ ∃ Nx : Hp → Prop, (∀ H', Nx H' → ∃ m', m' < m ∧ W (i + 1) m' H') ∧ ∀ x H', J.yld i H x H' → g x (wipe σ vs) H' fun σ2 H2 => wipe σ2 vs = wipe σ vs ∧ tt σ2 H2 fun b H3 =>
        if b = true then te σ2 H3 fun y H4 => ∃ acc, H4 D = some (.lst acc) ∧ acc.length < sizeLine ∧ Nx (upd H4 D (.lst (acc ++ [y]))) else Nx H3) := by
  have new : ∀ {H : Hp} {o : HO}, Same H1 H → Same H1 (upd H D o) := fun {H o} s b u e => by
    rw [upd_ne (ne_of_none e hD)]
    exact s b u e
  refine lc_it w (fun i H => Same H1 H ∧ ∃ qs : List Addr, H D = some (.lst (qs.map V.ref)) ∧ TupsAt H qs ((l.take i).filterMap f)) ⟨new (Same.refl _), [], ?_, ?_⟩ (fun i H _ p => hG H p.1) (fun i x H H' hi p y => ?_) (fun H p => ?_)
  · rw [upd_same]
    rfl
  · simp only [List.take_zero, List.filterMap_nil]
    exact .nil
  · obtain ⟨a, ha⟩ : ∃ a, l[i]? = some a := ⟨l[i], by simp [hi]⟩
    obtain ⟨s1, qs, eD, tq⟩ := p
    refine hs i a x H H' ha s1 y _ _ (fun q us H4 s4 ef eq => ⟨_, s4 _ _ eD, ?_, new (s1.trans s4), qs ++ [q], ?_, ?_⟩) (fun H3 s3 ef => ⟨s1.trans s3, qs, s3 _ _ eD, ?_⟩)
    · have h1 := List.length_filterMap_le f (l.take i)
      have h2 : (l.take i).length ≤ l.length := by rw [List.length_take]; omega
      have h3 := Paired.length tq
      rw [List.length_map]
      omega
    · rw [upd_same, List.map_append]
      rfl
    · rw [filterMap_take f ha, ef]
      exact Paired.app ((tq.same s4).upd (s4 _ _ eD)) (.cons (by rw [upd_ne (fun z => by rw [z, s4 _ _ eD] at eq; cases eq)]; exact eq) .nil)
    · rw [filterMap_take f ha, ef]
      simpa using tq.same s3
  · obtain ⟨s1, qs, eD, tq⟩ := p
    rw [List.take_length] at tq
    exact hd H qs s1 eD tq
section
variable {K : PySem.W.Frag} {te0 : TE} {g : TG} {tt : TT} {te : TE} {vs : List Nat} {σ : L2.St} {H : Hp} {Q : VK}
def TurnT {α : Type} (f : α → Option (List V)) (g : TG) (tt : TT) (te : TE) (vs : List Nat) (σ : L2.St) (H : Hp) (a : α) (x : V) : Prop :=
  ∀ (N1 : V → Hp → Prop) (N0 : Hp → Prop), (∀ q us H4, Same H H4 → f a = some us → H4 q = some (.tup us) → N1 (.ref q) H4) → (∀ H3, Same H H3 → f a = none → N0 H3) →
    g x (wipe σ vs) H fun σ2 H2 => wipe σ2 vs = wipe σ vs ∧ tt σ2 H2 fun b H3 => if b = true then te σ2 H3 N1 else N0 H3
/-- over a list that is made, or stands -/
theorem lcLT {α : Type} {l : List α} (it : α → V) (f : α → Option (List V)) (src : ∀ R : VK, (∀ p H1, Same H H1 → SqL K H1 p (l.map it) → R (.ref p) H1) → te0 σ H R) (hn : l.length < sizeLine)
    (hs : ∀ a H', a ∈ l → Same H H' → TurnT f g tt te vs σ H' a (it a))
    (hd : ∀ D H' qs, H D = none → Same H H' → H' D = some (.lst (qs.map V.ref)) → TupsAt H' qs (l.filterMap f) → Q (.ref D) H') : tLc (iList K te0) g tt te vs σ H Q := by
  refine src _ fun p H1 s1 hp => ⟨p, rfl, ⟨_, hp⟩, fun D hD => ?_⟩
  have w : Walk (Itl K p) l.length (fun H => SqL K H p (l.map it)) (YAt (l.map it)) := by
    have w := walk_list (K := K) (a := p) (xs := l.map it)
    rw [List.length_map] at w
    exact w
  refine lc_roT l w f hn hD (fun H' s => s.seq hp) (fun i a x H2 H3 ha s2 y => ?_) (fun H' qs s2 e t => hd D H' qs (s1.free hD) (s1.trans s2) e t)
  obtain ⟨rfl, hx⟩ := y
  have e : x = it a := by
    rw [List.getElem?_map, ha] at hx
    exact (Option.some.inj hx).symm
  subst e
  exact hs a _ (List.mem_of_getElem? ha) (s1.trans s2)
/-- over a dict's keys, under its lock -/
theorem lcKT {α : Type} {l : List α} {d : Addr} (kv : α → Key × V) (f : α → Option (List V)) (hk : H d = some (.dK (l.map kv))) (src : ∀ (H' : Hp) (R : VK), (∀ b o, b ≠ d → H b = some o → H' b = some o) → R (.ref d) H' → te0 σ H' R) (hn : l.length < sizeLine)
    (hs : ∀ a H' od, a ∈ l → (∀ b o, b ≠ d → H b = some o → H' b = some o) → H' d = some (.frz od (.dK (l.map kv))) → TurnT f g tt te vs σ H' a (kV (kv a).1))
    (hd : ∀ D H' qs, H D = none → Same H H' → H' D = some (.lst (qs.map V.ref)) → TupsAt H' qs (l.filterMap f) → Q (.ref D) H') : tLockE (tLc (iKeys te0) g tt te vs) σ H Q := by
  refine ⟨d, _, hk, trivial, fun od => ?_⟩
  have un : ∀ H', Same (upd H d (.frz od (.dK (l.map kv)))) H' → ∀ b o, b ≠ d → H b = some o → H' b = some o := fun H' s b o hb e => s b o (by rw [upd_ne hb]; exact e)
  refine src _ _ (un _ (Same.refl _)) ⟨d, od, rfl, .inl ⟨_, upd_same, fun D hD => ?_⟩⟩
  have nD : D ≠ d := fun z => by
    rw [z, upd_same] at hD
    cases hD
  have w : Walk (Itk d od (l.map kv)) l.length (fun H => H d = some (.frz od (.dK (l.map kv)))) (fun i H x H' => H' = H ∧ ∃ k v, (l.map kv)[i]? = some (k, v) ∧ x = kV k) := by
    have w := walk_keys (d := d) (o := od) (kvs := l.map kv)
    rw [List.length_map] at w
    exact w
  refine lc_roT l w f hn hD (fun H' s => s _ _ upd_same) (fun i a x H2 H3 ha s2 y => ?_) (fun H' qs s2 e t => ⟨s2 _ _ upd_same, hd D _ qs (by rw [upd_ne nD] at hD; exact hD) (Same.lock hk s2) (by rw [upd_ne nD]; exact e) (t.keep fun b xs q => by
    rw [upd_ne (fun z => by rw [z, s2 _ _ upd_same] at q; cases q)]
    exact q)⟩)
  obtain ⟨rfl, k, v, hx, rfl⟩ := y
  have e : (k, v) = kv a := by
    rw [List.getElem?_map, ha] at hx
    exact (Option.some.inj hx).symm
  have e1 : k = (kv a).1 := congrArg Prod.fst e
  rw [e1]
  exact hs a _ od (List.mem_of_getElem? ha) (un _ s2) (s2 _ _ upd_same)
end
/-- for over a dict's keys, under its lock -/
theorem forK {α : Type} {te0 : TE} {g : TG} {tb : TS} {D : Ends} {σ : L2.St} {H : Hp} {l : List α} {d : Addr} (kv : α → Key × V) (hk : H d = some (.dK (l.map kv))) (src : ∀ (H' : Hp) (R : VK), (∀ b o, b ≠ d → H b = some o → H' b = some o) → R (.ref d) H' → te0 σ H' R)
    (Pv : Obj → Nat → L2.St → Hp → Prop) (h0 : ∀ od H', (∀ b o, b ≠ d → H b = some o → H' b = some o) → (∀ b o, b ≠ d → H' b = some o → H b = some o) → H' d = some (.frz od (.dK (l.map kv))) → Pv od 0 σ H') (hG : ∀ od i σ' H', i ≤ l.length → Pv od i σ' H' → H' d = some (.frz od (.dK (l.map kv))))
    (hs : ∀ od i a σ' H' (D' : Ends), l[i]? = some a → Pv od i σ' H' → (∀ σ2 H2, Pv od (i + 1) σ2 H2 → D'.nx σ2 H2) → (∀ σ2 H2, Pv od (i + 1) σ2 H2 → D'.ct σ2 H2) → (∀ v H2, H2 d = some (.frz od (.dK (l.map kv))) → D.rt v (upd H2 d (.dK (l.map kv))) → D'.rt v H2) →
      g (kV (kv a).1) σ' H' fun σ2 H2 => tb D' σ2 H2)
    (hd : ∀ od σ' H', Pv od l.length σ' H' → D.nx σ' (upd H' d (.dK (l.map kv)))) : tLock (tFor (iKeys te0) g tb) D σ H := by
  refine ⟨d, _, hk, trivial, fun od => ?_⟩
  have un : ∀ b o, b ≠ d → H b = some o → upd H d (.frz od (.dK (l.map kv))) b = some o := fun b o hb e => by rw [upd_ne hb]; exact e
  have nu : ∀ b o, b ≠ d → upd H d (.frz od (.dK (l.map kv))) b = some o → H b = some o := fun b o hb e => by rw [upd_ne hb] at e; exact e
  refine src _ _ un ⟨d, od, rfl, .inl ⟨_, upd_same, ?_⟩⟩
  have w : Walk (Itk d od (l.map kv)) l.length (fun H => H d = some (.frz od (.dK (l.map kv)))) (fun i H x H' => H' = H ∧ ∃ k v, (l.map kv)[i]? = some (k, v) ∧ x = kV k) := by
    have w := walk_keys (d := d) (o := od) (kvs := l.map kv)
    rw [List.length_map] at w
    exact w
  refine for_it w (Pv od) (h0 od _ un nu upd_same) (hG od) (fun i x σ' H2 H3 hi p1 y => ?_) (fun σ' H' p => ⟨hG od _ σ' H' (Nat.le_refl _) p, hd od σ' H' p⟩)
  obtain ⟨rfl, k, v, hx, rfl⟩ := y
  obtain ⟨a, ha⟩ : ∃ a, l[i]? = some a := ⟨l[i], by simp [hi]⟩
  have e : (k, v) = kv a := by
    rw [List.getElem?_map, ha] at hx
    exact (Option.some.inj hx).symm
  have e1 : k = (kv a).1 := congrArg Prod.fst e
  rw [e1]
  exact hs od i a σ' _ _ ha p1 (fun _ _ h => h) (fun _ _ h => h) (fun v H2 h1 h2 => ⟨h1, h2⟩)
/-- for over a list that is made right there -/
theorem forN2 {α : Type} {K : PySem.W.Frag} {te0 : TE} {g : TG} {tb : TS} {D : Ends} {σ : L2.St} {H : Hp} {l : List α} (it : α → V) (src : ∀ R : VK, New (.lst (l.map it)) H R → te0 σ H R)
    (Pv : Addr → Nat → L2.St → Hp → Prop) (h0 : ∀ p H1, H p = none → Same H H1 → H1 p = some (.lst (l.map it)) → Pv p 0 σ H1) (hG : ∀ p i σ' H', i ≤ l.length → Pv p i σ' H' → SqL K H' p (l.map it))
    (hs : ∀ p i a σ' H' (D' : Ends), l[i]? = some a → Pv p i σ' H' → (∀ σ2 H2, Pv p (i + 1) σ2 H2 → D'.nx σ2 H2) → (∀ σ2 H2, Pv p (i + 1) σ2 H2 → D'.ct σ2 H2) → D'.rt = D.rt → D'.bk = D.nx → g (it a) σ' H' fun σ2 H2 => tb D' σ2 H2)
    (hd : ∀ p σ' H', Pv p l.length σ' H' → D.nx σ' H') : tFor (iList K te0) g tb D σ H := by
  refine src _ fun p H1 n1 s1 e1 => ⟨p, rfl, ⟨_, SqL.of e1⟩, ?_⟩
  have w : Walk (Itl K p) l.length (fun H => SqL K H p (l.map it)) (YAt (l.map it)) := by
    have w := walk_list (K := K) (a := p) (xs := l.map it)
    rw [List.length_map] at w
    exact w
  refine for_it w (Pv p) (h0 p H1 n1 s1 e1) (hG p) (fun i x σ' H2 H3 hi p1 y => ?_) (hd p)
  obtain ⟨rfl, hx⟩ := y
  obtain ⟨a, ha⟩ : ∃ a, l[i]? = some a := ⟨l[i], by simp [hi]⟩
  have e : x = it a := by
    rw [List.getElem?_map, ha] at hx
    exact (Option.some.inj hx).symm
  subst e
  exact hs p i a σ' _ _ ha p1 (fun _ _ h => h) (fun _ _ h => h) rfl rfl
theorem SqL.updL {K : PySem.W.Frag} {H : Hp} {p f : Addr} {xs : List V} {o : HO} (h : SqL K H p xs) (n : p ≠ f) : SqL K (upd H f o) p xs := by
  rcases h with (h | ⟨u, h⟩) | h
  · exact .inl (.inl (by rw [upd_ne n]; exact h))
  · exact .inl (.inr ⟨u, by rw [upd_ne n]; exact h⟩)
  · exact .inr h
theorem filterMap_fun {α β : Type} (l : List α) (f : α → β) : (l.filterMap fun a => some (f a)) = l.map f := congrFun List.filterMap_eq_map' l
end Vw
namespace Vw
open PySem PySem.Spec PyProof.Rows L2
/-- t + u of tuples, none empty: a new one -/
def rCatTN (K : PySem.W.Frag) : R2 := fun x y H Q => ∃ a b xs ys, x = .ref a ∧ y = .ref b ∧ SqT K H a xs ∧ SqT K H b ys ∧ xs ≠ [] ∧ ys ≠ [] ∧ xs.length + ys.length ≤ sizeLine ∧ New (.tup (xs ++ ys)) H Q
theorem op_catTK (K : PySem.W.Frag) {X : Cx} (hK : X.K = K := by rfl) : OpR X (binaryOp .Add) (rCatTN K) := by
  subst hK
  intro pins s σ H x y v u Q I rx ry h
  obtain ⟨a, b, xs, ys, h1, h2, h3, h4, h5, h6, h7, h8⟩ := h
  exact op_catT pins s σ H x y v u Q I rx ry ⟨a, b, xs, ys, h1, h2, h3, h4, h5, h7, fun z => absurd z h6, fun _ => h8.use⟩
theorem sl_tupNK (K : PySem.W.Frag) {X : Cx} (hK : X.K = K := by rfl) : SlR X (rSlTN K) := by
  subst hK
  exact sl_tupN
theorem sl_listNK (K : PySem.W.Frag) {X : Cx} (hK : X.K = K := by rfl) : SlR X (rSlN K) := by
  subst hK
  exact sl_listN
end Vw
namespace Vw
open PySem PySem.Spec PyProof.Rows L2
local macro_rules | `(tactic| walk_at "rd") => `(tactic| simp only [tSeq, tNext, tIfS, tAsg, tRet, tRetN, tDrop, tVar, tC, tOp, tUn, tTest, tB, tAnd, tOr, tNot, tAndV, tOrV, tNotV, tIf, tChain, tCB, tCons, tNil, tCall, tMeth, tMake, tFld, sFld, tTup, tLst, tTupS, tLstS, tDNewKS, tDNewTS, tTold, tCmp, t2I, tIsN, tNotN, tPar, gName, gNil, gCons, gTup, gSub, rI0, rU, rEq, rNe, tDGet, tDIn, tDNotIn, sDPut, tDNewK, tDGet1, tDGet2, tDPop1, tDPop2, tBM, tBM0, tM0, tM1, tSl, tPart, tNoPart, tBreak, tCont, tThru, L2.start, List.map_cons, List.map_nil, List.length_cons, List.length_nil, List.cons_append, List.nil_append, List.append_nil, List.replicate_succ, List.replicate_zero, Nat.reduceAdd, Nat.reduceSub, Nat.zero_add, List.getElem?_cons_zero, List.getElem?_cons_succ, List.set_cons_zero, List.set_cons_succ, wipe, cxOf_K, tYes, List.cons.injEq, and_self, Option.some.injEq, V.int.injEq, V.bl.injEq, V.ref.injEq, V.str.injEq, exists_eq_left', exists_eq_left, exists_and_left, and_assoc, true_and, and_true, if_true, if_false, ite_true, ite_false, Bool.not_true, Bool.not_false, Bool.false_eq_true, reduceIte])
/-! ### under the lock of the own rows -/
structure OwnLk (H : Hp) (O : OLay) : Prop where
  rd : OwnRd H O
  fz : ∃ od, H O.d = some (.frz od (.dK (O.ents.map oK)))
  nd : (footO O).Nodup
theorem OwnLk.same {H H' : Hp} {O : OLay} (B : OwnLk H O) (s : Same H H') : OwnLk H' O := ⟨B.rd.same s, B.fz.imp fun od h => s _ _ h, B.nd⟩
theorem OwnLk.av {H : Hp} {O : OLay} (W : OwnLk H O) : ∀ e ∈ O.ents, ∀ e' ∈ O.ents, e.a ≠ e'.v := fun e he e' he' => (List.nodup_append.mp (List.nodup_cons.mp (List.nodup_cons.mp W.nd).2).2).2.2 _ (List.mem_map.mpr ⟨e, he, rfl⟩) _ (List.mem_map.mpr ⟨e', he', rfl⟩)
theorem OwnAt.lk {H H' : Hp} {O : OLay} {od : Obj} (W : OwnAt H O) (k : ∀ b o, b ≠ O.d → H b = some o → H' b = some o) (hd : H' O.d = some (.frz od (.dK (O.ents.map oK)))) : OwnLk H' O := ⟨W.lock k hd, ⟨od, hd⟩, W.nd⟩
/-- over the keys of a dict that is locked already -/
theorem lcKF {te0 : TE} {g : TG} {tt : TT} {te : TE} {vs : List Nat} {σ : L2.St} {H : Hp} {Q : VK} {α : Type} {l : List α} {d : Addr} {od : Obj} (kv : α → Key × V) (f : α → Option V) (hk : H d = some (.frz od (.dK (l.map kv)))) (src : ∀ R : VK, R (.ref d) H → te0 σ H R) (hn : l.length < sizeLine)
    (hs : ∀ a H', a ∈ l → Same H H' → Turn1 f g tt te vs σ H' a (kV (kv a).1))
    (hd : ∀ D H', H D = none → Same H H' → H' D = some (.lst (l.filterMap f)) → Q (.ref D) H') : tLc (iKeys te0) g tt te vs σ H Q := by
  refine src _ ⟨d, od, rfl, .inl ⟨_, hk, fun D hD => ?_⟩⟩
  have w : Walk (Itk d od (l.map kv)) l.length (fun H => H d = some (.frz od (.dK (l.map kv)))) (fun i H x H' => H' = H ∧ ∃ k v, (l.map kv)[i]? = some (k, v) ∧ x = kV k) := by
    have w := walk_keys (d := d) (o := od) (kvs := l.map kv)
    rw [List.length_map] at w
    exact w
  refine lc_ro l w f hn hD (fun H' s => s _ _ hk) (fun i a x H2 H3 ha s2 y => ?_) (fun H' s2 e => hd D H' hD s2 e)
  obtain ⟨rfl, k, v, hx, rfl⟩ := y
  have e : (k, v) = kv a := by
    rw [List.getElem?_map, ha] at hx
    exact (Option.some.inj hx).symm
  have e1 : k = (kv a).1 := congrArg Prod.fst e
  rw [e1]
  exact hs a _ (List.mem_of_getElem? ha) s2
section
variable {P : Program} {w : World} {K : PySem.W.Frag} {mg : Str → Option Value} {base : Heap}
def spBeneathL (K : PySem.W.Frag) : Sp := fun vs H Q _ => ∃ (O : OLay) (n : Int), vs = [.ref O.p, .int n] ∧ OwnLk H O ∧ Wf O.rows ∧ (∀ p ∈ O.rows, (aboveR O.rows p.1).length ≤ 8) ∧ New (.lst ((sortI (beneathR O.rows n)).map V.int)) H Q
theorem D__law_beneathL (T : Txt K mg base) : Def P w K mg base 3 (He.ga K "_law_beneath") ["own", "number"] (spBeneathL K) := by
  refine mk_def T.f__law_beneath sc__law_beneath be__law_beneath (fun vs H Q E h => ?_) (fun cdv A outer s H vs Q E hr h => ?_)
  · obtain ⟨O, n, rfl, _⟩ := h
    rfl
  · obtain ⟨O, n, rfl, W, F, h8, k⟩ := h
    refine ⟨_, (pss_one (ps_ret (pe_callB cr_sortedN (by rfl) T.b_sorted (by decide +kernel) (pa_cons (id (pe_lc (own := [("one", 2)]) (g := gName 2) rfl sc__law_beneath.nd (pi_keys (pe_dg (pv 0) pe_str (by exact hu_of hr))) (blkOk_by (N := N__law_beneath) (sc := defScope s__law_beneath) (by decide +kernel)) (fun _ _ _ _ _ => by exact (pg_name (i := 2) sc__law_beneath.nd rfl (Or.inl rfl))) (fun _ _ _ _ _ => by exact (pts_one (pt_cmpR (op_in_seqK K) (pv 1) (pe_cd (D__law_above T) (by exact hr.mono (by first | decide | omega)) T.g__law_above passF (pa_cons (pv 0) (pa_cons (pv 2) pa_nil))) rfl))) (fun _ _ _ _ _ => by exact (pv 2)))) pa_nil)))), ?_⟩
    walk_at "rd"
    obtain ⟨od, fz⟩ := W.fz
    refine lcKF (l := O.ents) oK (fun e => if n ∈ aboveR O.rows e.n then some (V.int e.n) else none) fz (fun R h => ?_) (by rw [sizeLine_eq]; have := W.rd.sz; omega) (fun e H' he sm N1 N0 h1 h0 => ?_) (fun D H' nD s1 eD => ?_)
    · walk_at "rd"
      exact ⟨_, g_rows W.rd.top, h⟩
    · walk_at "rd"
      have me : (e.n, e.row) ∈ O.rows := List.mem_map.mpr ⟨e, he, rfl⟩
      refine ⟨O, rfl, e.n, rfl, W.rd.same sm, F, .inr ⟨_, findR_of F.nk me⟩, h8 _ me, fun l H2 n2 s2 e2 => ⟨l, _, rfl, .inl (SqL.of e2), rfl, all_flat _, _, rfl, ?_⟩⟩
      rw [inV_int]
      by_cases hm : n ∈ aboveR O.rows e.n
      · rw [decide_eq_true hm]
        exact iteT (h1 _ _ s2 (if_pos hm))
      · rw [decide_eq_false hm]
        exact iteF (h0 _ s2 (if_neg hm))
    · rw [beneath_ents] at eD
      have ln : (beneathR O.rows n).length < 64 := by
        have h1 : (beneathR O.rows n).length ≤ (O.rows.map (·.1)).length := List.length_filter_le _ _
        rw [List.length_map] at h1
        unfold OLay.rows at h1
        rw [List.length_map] at h1
        have := W.rd.sz
        unfold OLay.rows
        omega
      exact ⟨D, _, rfl, SqL.of eD, ln, fun ns' hp hs p H2 n2 s2 e2 => k p H2 (s1.free n2) (s1.trans s2) (by rw [← sortI_eq hp hs]; exact e2)⟩
def spOneLikeL (K : PySem.W.Frag) : Sp := fun vs H Q _ => ∃ (L : Lay) (O : OLay) (n : Int), vs = [.ref L.p, .ref O.p, .int n] ∧ WoodAt K H L ∧ OwnLk H O ∧ L.wd = O.wd ∧ Good L.wd ∧ VotesOk L.wd ∧ RowsOk L.wd ∧ (∃ r, findR L.rows n = some r) ∧ ∀ H', Same H H' → Q (.bl true) H'
theorem D__law_one_likeL (T : Txt K mg base) : Def P w K mg base 14 (He.ga K "_law_one_like") ["wood", "own", "number"] (spOneLikeL K) := by
  refine mk_def T.f__law_one_like sc__law_one_like be__law_one_like (fun vs H Q E h => ?_) (fun cdv A outer s H vs Q E hr h => ?_)
  · obtain ⟨a, b, c, rfl, _⟩ := h
    rfl
  · obtain ⟨L, O, n, rfl, W, B, e, G, vo, ro, ⟨r, hr1⟩, k⟩ := h
    refine ⟨_, (pss_cons (ps_set (i := 3) sc__law_one_like.nd rfl (Or.inr rfl) (pe_dg (pv 1) pe_str (by exact hu_of hr)))
      (pss_cons (ps_set (i := 4) sc__law_one_like.nd rfl (Or.inr rfl) (pe_dg (pv 3) (pv 2) (by exact hu_of hr)))
      (pss_cons (ps_if (pt_ned (pe_md (pv 0) T.c_Wood.c T.m_Wood_look (D_Wood_look T) (by exact hr.mono (by first | decide | omega)) passE (pa_cons (pv 2) pa_nil)) (pe_tupS (pa_cons (pe_dg (pv 4) pe_str (by exact hu_of hr)) (pa_cons (pe_dg (pv 4) pe_str (by exact hu_of hr)) (pa_cons (pe_dg (pv 4) pe_str (by exact hu_of hr)) (pa_cons (pe_dg (pv 4) pe_str (by exact hu_of hr)) pa_nil))))) (by exact hr.units)) (pss_one (ps_ret pe_bl)) pss_nil)
      (pss_cons (ps_set (i := 5) sc__law_one_like.nd rfl (Or.inl rfl) (pe_callB call_len_seq (by rfl) T.b_len (by decide +kernel) (pa_cons (pe_lock (pe_lc (own := [("name", 9)]) (g := gName 9) rfl sc__law_one_like.nd (pi_keys (pe_dg (pv 4) pe_str (by exact hu_of hr))) (blkOk_by (N := N__law_one_like) (sc := defScope s__law_one_like) (by decide +kernel)) (fun _ _ _ _ _ => by exact (pg_name (i := 9) sc__law_one_like.nd rfl (Or.inl rfl))) (fun _ _ _ _ _ => by exact (pts_one (pt_cmpR op_eq (pe_dg (pe_dg (pv 4) pe_str (by exact hu_of hr)) (pv 9) (by exact hu_of hr)) pe_int (nomark _)))) (fun _ _ _ _ _ => by exact (pv 9)))) pa_nil)))
      (pss_cons (ps_if (pt_ned (pe_md (pv 0) T.c_Wood.c T.m_Wood_votes_of (D_Wood_votes_of T) (by exact hr.mono (by first | decide | omega)) passE (pa_cons (pv 2) pa_nil)) (pe_tupS (pa_cons (pv 5) (pa_cons (pe_op op_sub (pe_callB call_lenD (by rfl) T.b_len (by decide +kernel) (pa_cons (pe_dg (pv 4) pe_str (by exact hu_of hr)) pa_nil)) (pv 5)) pa_nil))) (by exact hr.units)) (pss_one (ps_ret pe_bl)) pss_nil)
      (pss_cons (ps_set (i := 6) sc__law_one_like.nd rfl (Or.inl rfl) (pe_cd (D__law_beneathL T) (by exact hr.mono (by first | decide | omega)) T.g__law_beneath passE (pa_cons (pv 1) (pa_cons (pv 2) pa_nil))))
      (pss_cons (ps_setLc (i := 7) (own := [("one", 8)]) (g := gName 8) rfl sc__law_one_like.nd rfl rfl (sw_true rfl rfl rfl (by decide +kernel)) (pi_list (pv 6)) (blkOk_by (N := N__law_one_like) (sc := defScope s__law_one_like) (by decide +kernel)) (fun _ _ _ _ _ => by exact (pg_name (i := 8) sc__law_one_like.nd rfl (Or.inl rfl))) (fun _ _ _ _ _ => by exact (pts_one (pt_cmpR op_eq (pe_dg (pe_dg (pv 3) (pv 8) (by exact hu_of hr)) pe_str (by exact hu_of hr)) (pv 2) (nomark _)))) (fun _ _ _ _ _ => by exact (pv 8)))
      (pss_cons (ps_if (PW.pt (pw_or (pt_ned (pe_md (pv 0) T.c_Wood.c T.m_Wood_below (D_Wood_below T) (by exact hr.mono (by first | decide | omega)) passE (pa_cons (pv 2) pa_nil)) (pv 6) (by exact hr.units)) (pw_or1 (pt_ned (pe_md (pv 0) T.c_Wood.c T.m_Wood_replies (D_Wood_replies T) (by exact hr.mono (by first | decide | omega)) passE (pa_cons (pv 2) pa_nil)) (pv 7) (by exact hr.units))))) (pss_one (ps_ret pe_bl)) pss_nil)
      (pss_one (ps_ret (pe_cmpR op_eq (pe_md (pv 0) T.c_Wood.c T.m_Wood_many (D_Wood_many T) (by exact hr.mono (by first | decide | omega)) passE (pa_cons (pv 2) pa_nil)) (pe_callB call_len_seq (by rfl) T.b_len (by decide +kernel) (pa_cons (pe_lc (own := [("one", 8)]) (g := gName 8) rfl sc__law_one_like.nd (pi_list (pv 6)) (blkOk_by (N := N__law_one_like) (sc := defScope s__law_one_like) (by decide +kernel)) (fun _ _ _ _ _ => by exact (pg_name (i := 8) sc__law_one_like.nd rfl (Or.inl rfl))) (fun _ _ _ _ _ => by exact (pts_one (pt_cmpR op_notN (pe_dg (pe_dg (pv 3) (pv 8) (by exact hu_of hr)) pe_str (by exact hu_of hr)) pe_non (nomark _)))) (fun _ _ _ _ _ => by exact (pv 8))) pa_nil)) (nomark _)))))))))))), ?_⟩
    walk_at "rd"
    have er := rows_eq e
    have F : Wf L.rows := G.wf
    have z9 : (1000 : Nat) < sizeLine := by rw [sizeLine_eq]; omega
    have ln : L.rows.length ≤ 60 := G.len
    have hr2 : findR O.rows n = some r := by rw [er]; exact hr1
    obtain ⟨en, fe, rfl⟩ := OLay.ent hr2
    have me := (findO_mem fe).1
    have mr : (n, en.row) ∈ L.rows := findR_mem hr1
    have ok := ro _ mr
    have sy : sayingM L.wd (.int n) = some (n, en.row) := by
      rw [sayingG G]
      show (findR L.rows n).map _ = _
      rw [hr1]
      rfl
    refine ⟨_, g_rows B.rd.top, _, rfl, _, B.rd.at fe, _, _, W.top, fw_no _ _ _ (by decide) (by decide) (by decide), use_look W sy fun p1 H1 n1 s1 e1 => ?_⟩
    have B1 := B.same s1
    refine ⟨_, rfl, _, g_by (B1.rd.row en me), _, rfl, _, g_under (B1.rd.row en me), _, rfl, _, g_text (B1.rd.row en me), _, rfl, _, g_time (B1.rd.row en me), by omega, fun p2 H2 n2 s2 e2 => ?_⟩
    refine use_neD (dp_look (s2 _ _ e1)) (dp_look e2) (shaped_look ok) (shaped_look ok) ⟨_, rfl, ?_⟩
    rw [eqv_look]
    have s12 := s1.trans s2
    have B2 := B.same s12
    have ra2 := B2.rd.row en me
    have rv2 := B2.rd.vot en me
    have nav := B.av en me en me
    refine iteF (lcK (l := en.row.votes) voteK (fun p => if p.2 = 1 then some (.str p.1) else none) rv2 (fun H' R kp h => ?_) (by rw [sizeLine_eq]; have := B.rd.vsz en me; omega) (fun v H' od hv kp hd N1 N0 h1 h0 => ?_) (fun D H3 nD s3 eD => ?_))
    · walk_at "rd"
      exact ⟨_, g_votes (kp _ _ nav ra2), h⟩
    · walk_at "rd"
      refine ⟨_, g_votes (kp _ _ nav ra2), _, rfl, _, .inl ⟨_, Sum.inr v.1, .inr ⟨od, hd⟩, rfl, (votes_at (B.rd.ndv en me) hv).symm⟩, rfl, ?_⟩
      by_cases c : v.2 = 1
      · rw [decide_eq_true (show V.int v.2 = V.int 1 by rw [c])]
        exact iteT (h1 _ _ (Same.refl _) (if_pos c))
      · rw [decide_eq_false (show ¬ V.int v.2 = V.int 1 from fun q => c (V.int.inj q))]
        exact iteF (h0 _ (Same.refl _) (if_neg c))
    have s13 := s12.trans s3
    have W3 := W.same s13
    refine ⟨D, rfl, _, .inl (SqL.of eD), _, _, W3.top, fw_no _ _ _ (by decide) (by decide) (by decide), use_votesOf W3 sy fun p4 H4 n4 s4 e4 => ?_⟩
    have B4 := (B.same s13).same s4
    refine ⟨_, rfl, _, g_votes (B4.rd.row en me), _, rfl, _, B4.rd.vot en me, by omega, fun p5 H5 n5 s5 e5 => ?_⟩
    obtain ⟨u1, u2⟩ := ups_of (r := en.row) fun v hv => vo _ mr v hv
    have l1 : ((en.row.votes.filterMap fun p => if p.2 = 1 then some (V.str p.1) else none).length : Int) = en.row.ups := by
      rw [filterMap_if, List.length_map]
      exact u1
    have l2 : ((votesK en.row.votes).length : Int) - ((en.row.votes.filterMap fun p => if p.2 = 1 then some (V.str p.1) else none).length : Int) = en.row.downs := by
      rw [filterMap_if, List.length_map]
      unfold votesK
      rw [List.length_map]
      exact u2
    rw [l2, l1] at e5
    refine use_neD (dp_int2 (s5 _ _ e4)) (dp_int2 e5) rfl rfl ⟨_, rfl, ?_⟩
    rw [eqv_pair]
    have s15 := s13.trans (s4.trans s5)
    have W5 := W.same s15
    have B5 := B.same s15
    refine iteF ⟨O, n, rfl, B5, by rw [er]; exact F, by rw [er]; exact fun p hp => G.dp p hp, fun p6 H6 n6 s6 e6 => ?_⟩
    rw [er] at e6
    have s16 := s15.trans s6
    have W6 := W.same s16
    have B6 := B.same s16
    have bl : (beneathR L.rows n).length ≤ 60 := by
      unfold beneathR
      exact Nat.le_trans (List.length_filter_le _ _) (by rw [List.length_map]; exact ln)
    refine lcL (l := sortI (beneathR L.rows n)) V.int (fun m => if upR L.rows m = n then some (.int m) else none) (fun R h => ⟨_, rfl, h p6 H6 (Same.refl _) (SqL.of e6)⟩) (by rw [sortI_length]; omega) (fun m H' hm s1 N1 N0 h1 h0 => ?_) (fun D2 H7 nD2 s7 eD2 => ?_)
    · have B' := B6.same s1
      obtain ⟨⟨rm, hrm⟩, _⟩ := mem_beneath.mp ((sortI_perm _).mem_iff.mp hm)
      have fm := findR_of F.nk hrm
      obtain ⟨em, fem, rfl⟩ := OLay.ent (O := O) (n := m) (r := rm) (by rw [er]; exact fm)
      have eu : upR L.rows m = em.row.under := by unfold upR; rw [fm]; rfl
      walk_at "rd"
      refine ⟨_, B'.rd.at fem, _, rfl, _, g_under (B'.rd.row em (findO_mem fem).1), rfl, ?_⟩
      by_cases c : em.row.under = n
      · rw [decide_eq_true (show V.int em.row.under = V.int n by rw [c])]
        exact iteT (h1 _ _ (Same.refl _) (if_pos (eu.trans c)))
      · rw [decide_eq_false (show ¬ V.int em.row.under = V.int n from fun q => c (V.int.inj q))]
        exact iteF (h0 _ (Same.refl _) (if_neg fun z => c (eu.symm.trans z)))
    rw [filterMap_if, filter_sortI, replies_of F] at eD2
    have s17 := s16.trans s7
    have W7 := W.same s17
    refine ⟨_, _, W7.top, fw_no _ _ _ (by decide) (by decide) (by decide), use_below W7 G (.inr ⟨_, hr1⟩) fun p8 H8 n8 s8 e8 => use_neL e8 ((s7.trans s8) _ _ e6) ⟨_, rfl, iteF ?_⟩⟩
    have W8 := W7.same s8
    refine ⟨_, _, W8.top, fw_no _ _ _ (by decide) (by decide) (by decide), use_replies W8 G fun p9 H9 n9 s9 e9 => use_neL e9 ((s8.trans s9) _ _ eD2) ⟨_, rfl, iteF ?_⟩⟩
    have W9 := W8.same s9
    refine ⟨_, _, W9.top, fw_no _ _ _ (by decide) (by decide) (by decide), use_many W9 G (.inr ⟨_, hr1⟩) fun H10 s10 => ?_⟩
    have s610 := s7.trans (s8.trans (s9.trans s10))
    have B10 := B6.same s610
    refine lcL (l := sortI (beneathR L.rows n)) V.int (fun m => if (((findR L.rows m).map fun r => !r.struck).getD false) = true then some (.int m) else none) (fun R h => ⟨_, rfl, h p6 H10 (Same.refl _) (SqL.of (s610 _ _ e6))⟩) (by rw [sortI_length]; omega) (fun m H' hm s1 N1 N0 h1 h0 => ?_) (fun D3 H11 nD3 s11 eD3 => ?_)
    · have B' := B10.same s1
      obtain ⟨⟨rm, hrm⟩, _⟩ := mem_beneath.mp ((sortI_perm _).mem_iff.mp hm)
      have fm := findR_of F.nk hrm
      obtain ⟨em, fem, rfl⟩ := OLay.ent (O := O) (n := m) (r := rm) (by rw [er]; exact fm)
      walk_at "rd"
      refine ⟨_, B'.rd.at fem, _, rfl, _, g_text (B'.rd.row em (findO_mem fem).1), ?_⟩
      rw [tell_struck]
      cases c : em.row.struck with
      | false => exact iteT (h1 _ _ (Same.refl _) (if_pos (by rw [fm]; simp [c])))
      | true => exact iteF (h0 _ (Same.refl _) (if_neg (by rw [fm]; simp [c])))
    refine ⟨D3, rfl, _, .inl (SqL.of eD3), rfl, ?_⟩
    have l3 : ((sortI (beneathR L.rows n)).filterMap fun m => if (((findR L.rows m).map fun r => !r.struck).getD false) = true then some (V.int m) else none).length = manyR L.rows n := by
      rw [filterMap_if, List.length_map]
      unfold manyR
      refine ((sortI_perm _).filter _).length_eq.trans ?_
      simp
    rw [l3, int_eq]
    exact k H11 (s16.trans (s610.trans s11))
end
end Vw
namespace Vw
open PySem PySem.Spec PyProof.Rows L2
local macro_rules | `(tactic| walk_at "rd") => `(tactic| simp only [tSeq, tNext, tIfS, tAsg, tRet, tRetN, tDrop, tVar, tC, tOp, tUn, tTest, tB, tAnd, tOr, tNot, tAndV, tOrV, tNotV, tIf, tChain, tCB, tCons, tNil, tCall, tMeth, tMake, tFld, sFld, tTup, tLst, tTupS, tLstS, tDNewKS, tDNewTS, tTold, tCmp, t2I, tIsN, tNotN, tPar, gName, gNil, gCons, gTup, gSub, rI0, rU, rEq, rNe, tDGet, tDIn, tDNotIn, sDPut, tDNewK, tDGet1, tDGet2, tDPop1, tDPop2, tBM, tBM0, tM0, tM1, tSl, tPart, tNoPart, tBreak, tCont, tThru, L2.start, List.map_cons, List.map_nil, List.length_cons, List.length_nil, List.cons_append, List.nil_append, List.append_nil, List.replicate_succ, List.replicate_zero, Nat.reduceAdd, Nat.reduceSub, Nat.zero_add, List.getElem?_cons_zero, List.getElem?_cons_succ, List.set_cons_zero, List.set_cons_succ, wipe, cxOf_K, tYes, List.cons.injEq, and_self, Option.some.injEq, V.int.injEq, V.bl.injEq, V.ref.injEq, V.str.injEq, exists_eq_left', exists_eq_left, exists_and_left, and_assoc, true_and, and_true, if_true, if_false, ite_true, ite_false, Bool.not_true, Bool.not_false, Bool.false_eq_true, reduceIte])
/-! ### deeds as a ledger has them -/
inductive LDeed where
  | tick (a : PyData)
  | say (b u t : PyData)
  | change (d b t : PyData)
  | strike (d b : PyData)
  | vote (d b w : PyData)
def LDeed.dats : LDeed → List PyData
  | .tick a => [.str "tick", a]
  | .say b u t => [.str "say", b, u, t]
  | .change d b t => [.str "change", d, b, t]
  | .strike d b => [.str "strike", d, b]
  | .vote d b w => [.str "vote", d, b, w]
def tickM (M : Wd) : PyData → Except Er Wd
  | .int n => if 0 ≤ n ∧ n ≤ 1000 then .ok { M with clock := M.clock + n } else .error .number
  | _ => .error .number
def doneM (M : Wd) : LDeed → Except Er (V × Wd)
  | .tick a => (tickM M a).map fun p => (.non, p)
  | .say b u t => (sayM M b u t).map fun p => (.int p.1, p.2)
  | .change d b t => (changeM M d b t).map fun p => (.non, p)
  | .strike d b => (strikeM M d b).map fun p => (.int p.1, p.2)
  | .vote d b w => (voteM M d b w).map fun p => (.int p.1, p.2)
def LDeed.ok : LDeed → Prop
  | .tick _ => True
  | .say b u t => Short b ∧ SeqAt.shaped u = true ∧ Short t
  | .change _ b t => Short b ∧ Short t
  | .strike _ b => Short b
  | .vote _ b _ => Short b
def Deed.led : Deed → LDeed
  | .say n who text => .say (.str who) (.int n) (.str text)
  | .tick k _ => .tick (.int k)
  | .change n who text => .change (.int n) (.str who) (.str text)
  | .strike n who => .strike (.int n) (.str who)
  | .vote n who way => .vote (.int n) (.str who) (.int way)
def Deed.ltup : Deed → List V
  | .say n who text => [.str "say", .str who, .int n, .str text]
  | .tick k _ => [.str "tick", .int k]
  | .change n who text => [.str "change", .int n, .str who, .str text]
  | .strike n who => [.str "strike", .int n, .str who]
  | .vote n who way => [.str "vote", .int n, .str who, .int way]
theorem led_act {M : Wd} {d : Deed} (ok : DeedOk d) : doneM M d.led = actM M d := by
  cases d with
  | tick k who =>
    have := ok.tick rfl
    show (if 0 ≤ k ∧ k ≤ 1000 then Except.ok { M with clock := M.clock + k } else Except.error Er.number : Except Er Wd).map (fun p => (V.non, p)) = _
    rw [if_pos this]
    rfl
  | _ => rfl
theorem led_dats {K : PySem.W.Frag} {H : Hp} : ∀ d : Deed, DpAll K H d.ltup d.led.dats
  | .say _ _ _ => .cons (.str _) (.cons (.str _) (.cons (.int _) (.cons (.str _) .nil)))
  | .tick _ _ => .cons (.str _) (.cons (.int _) .nil)
  | .change _ _ _ => .cons (.str _) (.cons (.int _) (.cons (.str _) (.cons (.str _) .nil)))
  | .strike _ _ => .cons (.str _) (.cons (.int _) (.cons (.str _) .nil))
  | .vote _ _ _ => .cons (.str _) (.cons (.int _) (.cons (.str _) (.cons (.int _) .nil)))
theorem led_ok {d : Deed} (ok : DeedOk d) : d.led.ok := by
  cases d with
  | say n who text => exact ⟨short_name (ok.who (.inl rfl)).1, rfl, short_text (ok.who (.inl rfl)).2⟩
  | tick k who => trivial
  | change n who text => exact ⟨short_name (ok.who (.inr rfl)).1, short_text (ok.who (.inr rfl)).2⟩
  | strike n who => exact short_name (ok.strike rfl)
  | vote n who way => exact short_name (ok.vote rfl).1
/-- one place in such a list -/
theorem ex_val {α β : Type} {x : Except Er α} {g : α → β} {P : Except Er β → Prop} : (∀ a, x = .ok a → P (.ok (g a))) → (∀ e, x = .error e → P (.error e)) → P (x.map g) := fun h1 h2 => by
  cases x with
  | error e => exact h2 e rfl
  | ok a => exact h1 a rfl
theorem Step.lk {K : PySem.W.Frag} {H H' : Hp} {L L' : Lay} (S : Step H L H' L') (W : WoodAt K H L) : LK H H' := fun b o h n m => S.keep b o (fun hb => n (foot_obj W hb h)) h
theorem none_back {H H' : Hp} {b : Addr} (s : Same H H') (h : H' b = none) : H b = none := by
  cases e : H b with
  | none => rfl
  | some o => rw [s b o e] at h; cases h
section
variable {P : Program} {w : World} {K : PySem.W.Frag} {mg : Str → Option Value} {base : Heap}
def spDone (K : PySem.W.Frag) : Sp := fun vs H Q E => ∃ (L : Lay) (p : Addr) (xs : List V) (d : LDeed), vs = [.ref L.p, .ref p] ∧ SqT K H p xs ∧ DpAll K H xs d.dats ∧ WoodAt K H L ∧ Good L.wd ∧ d.ok ∧ (∀ e ∈ L.ents, e.row.votes.length < 9999) ∧
  (∀ v M, doneM L.wd d = .ok (v, M) → ∀ H' L', WoodAt K H' L' → L'.wd = M → Step H L H' L' → Q v H') ∧ (∀ e, doneM L.wd d = .error e → ∀ H', Same H H' → Bad K E e H')
abbrev N_done : List Str := ["wood", "deed", "word"]
theorem sc_done : FnScope N_done ["wood", "deed"] (defScope s_done) := ⟨rfl, rfl, rfl, by decide +kernel, rfl, by decide +kernel, by decide +kernel⟩
theorem be_done : BindEq "done" "done" s_done ["wood", "deed"] := fun _ _ _ _ _ _ us hl => match us, hl with | [_, _], _ => rfl
theorem D_done (T : Txt K mg base) : Def P w K mg base 5 (He.ga K "done") ["wood", "deed"] (spDone K) := by
  refine mk_def T.f_done sc_done be_done (fun vs H Q E h => ?_) (fun cdv A outer s H vs Q E hr h => ?_)
  · obtain ⟨L, p, xs, d, rfl, _⟩ := h
    rfl
  · obtain ⟨L, p, xs, d, rfl, hp, hd, W, G, dk, vl, k1, k0⟩ := h
    refine ⟨_, (pss_cons (ps_set (i := 2) sc_done.nd rfl (Or.inl rfl) (pe_ix ix_tup (pv 1) pe_int (fun _ _ => rfl)))
      (pss_cons (ps_if (pt_cmpR op_eq (pv 2) pe_str (nomark _)) (pss_one (ps_ret (pe_md (pv 0) T.c_Wood.c T.m_Wood_tick (D_Wood_tick T) (by exact hr.mono (by first | decide | omega)) passE (pa_cons (pe_ix ix_tup (pv 1) pe_int (fun _ _ => rfl)) pa_nil)))) pss_nil)
      (pss_cons (ps_if (pt_cmpR op_eq (pv 2) pe_str (nomark _)) (pss_one (ps_ret (pe_md (pv 0) T.c_Wood.c T.m_Wood_say (D_Wood_say T) (by exact hr.mono (by first | decide | omega)) passE (pa_cons (pe_ix ix_tup (pv 1) pe_int (fun _ _ => rfl)) (pa_cons (pe_ix ix_tup (pv 1) pe_int (fun _ _ => rfl)) (pa_cons (pe_ix ix_tup (pv 1) pe_int (fun _ _ => rfl)) pa_nil)))))) pss_nil)
      (pss_cons (ps_if (pt_cmpR op_eq (pv 2) pe_str (nomark _)) (pss_one (ps_ret (pe_md (pv 0) T.c_Wood.c T.m_Wood_change (D_Wood_change T) (by exact hr.mono (by first | decide | omega)) passE (pa_cons (pe_ix ix_tup (pv 1) pe_int (fun _ _ => rfl)) (pa_cons (pe_ix ix_tup (pv 1) pe_int (fun _ _ => rfl)) (pa_cons (pe_ix ix_tup (pv 1) pe_int (fun _ _ => rfl)) pa_nil)))))) pss_nil)
      (pss_cons (ps_if (pt_cmpR op_eq (pv 2) pe_str (nomark _)) (pss_one (ps_ret (pe_md (pv 0) T.c_Wood.c T.m_Wood_strike (D_Wood_strike T) (by exact hr.mono (by first | decide | omega)) passE (pa_cons (pe_ix ix_tup (pv 1) pe_int (fun _ _ => rfl)) (pa_cons (pe_ix ix_tup (pv 1) pe_int (fun _ _ => rfl)) pa_nil))))) pss_nil)
      (pss_one (ps_ret (pe_md (pv 0) T.c_Wood.c T.m_Wood_vote (D_Wood_vote T) (by exact hr.mono (by first | decide | omega)) passE (pa_cons (pe_ix ix_tup (pv 1) pe_int (fun _ _ => rfl)) (pa_cons (pe_ix ix_tup (pv 1) pe_int (fun _ _ => rfl)) (pa_cons (pe_ix ix_tup (pv 1) pe_int (fun _ _ => rfl)) pa_nil))))))))))), ?_⟩
    walk_at "rd"
    have vl9 : ∀ e ∈ L.ents, e.row.votes.length < 99999 := fun e he => Nat.lt_trans (vl e he) (by decide)
    have nofw : ∀ {m : String}, m ≠ "sayings" → m ≠ "came" → m ≠ "clock" → (woodFs L.d L.came L.clock).lookup (Str.ofString m) = none := fun h1 h2 h3 => fw_no _ _ _ h1 h2 h3
    cases d with
    | tick a =>
      cases hd with
      | cons h0 hd =>
      cases h0
      cases hd with
      | cons h1 hd =>
      cases hd
      rename_i x1
      refine ⟨p, _, 0, .str "tick", rfl, rfl, hp, rfl, rfl, ?_⟩
      rw [dq1]
      refine iteT ⟨_, _, W.top, nofw (by decide) (by decide) (by decide), p, _, 1, x1, rfl, rfl, hp, rfl, L, x1, a, rfl, W, h1, fun n en hc H' W' kp => ?_, fun hc => ?_⟩
      · subst en
        have hc' : 0 ≤ n ∧ n ≤ 1000 := by simpa [isCount] using hc
        refine k1 .non _ ?_ H' _ W' rfl ⟨rfl, fun b o hb e => kp b o (fun z => hb (by rw [z]; exact List.mem_cons_self)) e, fun b hb => .inl hb⟩
        show (if 0 ≤ n ∧ n ≤ 1000 then Except.ok { L.wd with clock := L.wd.clock + n } else Except.error Er.number : Except Er Wd).map (fun p => (V.non, p)) = _
        rw [if_pos hc']
        rfl
      · refine k0 .number ?_ H (Same.refl _)
        cases a with
        | int n =>
          have hc' : ¬ (0 ≤ n ∧ n ≤ 1000) := fun z => by simp [isCount, z] at hc
          show (if 0 ≤ n ∧ n ≤ 1000 then Except.ok { L.wd with clock := L.wd.clock + n } else Except.error Er.number : Except Er Wd).map (fun p => (V.non, p)) = _
          rw [if_neg hc']
          rfl
        | _ => rfl
    | say b u t =>
      cases hd with
      | cons h0 hd =>
      cases h0
      cases hd with
      | cons h1 hd =>
      cases hd with
      | cons h2 hd =>
      cases hd with
      | cons h3 hd =>
      cases hd
      rename_i x1 x2 x3
      obtain ⟨sb, su, st⟩ := dk
      refine ⟨p, _, 0, .str "say", rfl, rfl, hp, rfl, rfl, ?_⟩
      rw [dq (show "say" ≠ "tick" by decide)]
      refine iteF ⟨rfl, ?_⟩
      rw [dq1]
      refine iteT ⟨_, _, W.top, nofw (by decide) (by decide) (by decide), p, _, 1, x1, rfl, rfl, hp, rfl, p, _, 2, x2, rfl, rfl, hp, rfl, p, _, 3, x3, rfl, rfl, hp, rfl, L, x1, x2, x3, b, u, t, rfl, W, G.wf, G.le, h1, h2, h3, sb, su, st, fun n M h H' L' W' e' S => k1 (.int n) M ?_ H' L' W' e' S, fun e h H' s' => k0 e ?_ H' s'⟩
      · show (sayM L.wd b u t).map _ = _
        rw [h]
        rfl
      · show (sayM L.wd b u t).map _ = _
        rw [h]
        rfl
    | change d b t =>
      cases hd with
      | cons h0 hd =>
      cases h0
      cases hd with
      | cons h1 hd =>
      cases hd with
      | cons h2 hd =>
      cases hd with
      | cons h3 hd =>
      cases hd
      rename_i x1 x2 x3
      obtain ⟨sb, st⟩ := dk
      refine ⟨p, _, 0, .str "change", rfl, rfl, hp, rfl, rfl, ?_⟩
      rw [dq (show "change" ≠ "tick" by decide)]
      refine iteF ⟨rfl, ?_⟩
      rw [dq (show "change" ≠ "say" by decide)]
      refine iteF ⟨rfl, ?_⟩
      rw [dq1]
      refine iteT ⟨_, _, W.top, nofw (by decide) (by decide) (by decide), p, _, 1, x1, rfl, rfl, hp, rfl, p, _, 2, x2, rfl, rfl, hp, rfl, p, _, 3, x3, rfl, rfl, hp, rfl, L, x1, x2, x3, d, b, t, rfl, W, h1, h2, h3, sb, st, fun M h H' L' W' e' S => k1 .non M ?_ H' L' W' e' S, fun e h H' s' => k0 e ?_ H' s'⟩
      · show (changeM L.wd d b t).map _ = _
        rw [h]
        rfl
      · show (changeM L.wd d b t).map _ = _
        rw [h]
        rfl
    | strike d b =>
      cases hd with
      | cons h0 hd =>
      cases h0
      cases hd with
      | cons h1 hd =>
      cases hd with
      | cons h2 hd =>
      cases hd
      rename_i x1 x2
      refine ⟨p, _, 0, .str "strike", rfl, rfl, hp, rfl, rfl, ?_⟩
      rw [dq (show "strike" ≠ "tick" by decide)]
      refine iteF ⟨rfl, ?_⟩
      rw [dq (show "strike" ≠ "say" by decide)]
      refine iteF ⟨rfl, ?_⟩
      rw [dq (show "strike" ≠ "change" by decide)]
      refine iteF ⟨rfl, ?_⟩
      rw [dq1]
      refine iteT ⟨_, _, W.top, nofw (by decide) (by decide) (by decide), p, _, 1, x1, rfl, rfl, hp, rfl, p, _, 2, x2, rfl, rfl, hp, rfl, L, x1, x2, d, b, rfl, W, G.wf, G.l64, h1, h2, dk, fun m M h H' L' W' e' S => k1 (.int m) M ?_ H' L' W' e' S, fun e h H' s' => k0 e ?_ H' s'⟩
      · show (strikeM L.wd d b).map _ = _
        rw [h]
        rfl
      · show (strikeM L.wd d b).map _ = _
        rw [h]
        rfl
    | vote d b w =>
      cases hd with
      | cons h0 hd =>
      cases h0
      cases hd with
      | cons h1 hd =>
      cases hd with
      | cons h2 hd =>
      cases hd with
      | cons h3 hd =>
      cases hd
      rename_i x1 x2 x3
      refine ⟨p, _, 0, .str "vote", rfl, rfl, hp, rfl, rfl, ?_⟩
      rw [dq (show "vote" ≠ "tick" by decide)]
      refine iteF ⟨rfl, ?_⟩
      rw [dq (show "vote" ≠ "say" by decide)]
      refine iteF ⟨rfl, ?_⟩
      rw [dq (show "vote" ≠ "change" by decide)]
      refine iteF ⟨rfl, ?_⟩
      rw [dq (show "vote" ≠ "strike" by decide)]
      refine iteF ⟨_, _, W.top, nofw (by decide) (by decide) (by decide), p, _, 1, x1, rfl, rfl, hp, rfl, p, _, 2, x2, rfl, rfl, hp, rfl, p, _, 3, x3, rfl, rfl, hp, rfl, L, x1, x2, x3, d, b, w, rfl, W, h1, h2, h3, dk, vl9, fun m M h H' L' W' e' S => k1 (.int m) M ?_ H' L' W' e' S, fun e h H' s' => k0 e ?_ H' s'⟩
      · show (voteM L.wd d b w).map _ = _
        rw [h]
        rfl
      · show (voteM L.wd d b w).map _ = _
        rw [h]
        rfl
/-! ### a list of deeds, played -/
def LogAt (K : PySem.W.Frag) (H : Hp) (p : Addr) (ds : List Deed) : Prop := ∃ qs : List Addr, H p = some (.lst (qs.map V.ref)) ∧ Paired (fun q d => SqT K H q d.ltup) qs ds
def plays (M : Wd) : List Deed → Option Wd
  | [] => some M
  | d :: t => match actM M d with
    | .ok (_, M') => plays M' t
    | .error _ => none
theorem plays_app : ∀ {ds : List Deed} {M : Wd} (es : List Deed), plays M (ds ++ es) = (plays M ds).bind fun M' => plays M' es
  | [], M, es => rfl
  | d :: t, M, es => by
    simp only [List.cons_append, plays]
    cases actM M d with
    | error e => rfl
    | ok p => exact plays_app es
theorem plays_snoc {ds : List Deed} {M M1 : Wd} {d : Deed} {v : V} {M2 : Wd} (h : plays M ds = some M1) (e : actM M1 d = .ok (v, M2)) : plays M (ds ++ [d]) = some M2 := by
  rw [plays_app, h]
  simp only [Option.bind, plays]
  rw [e]
theorem plays_fine : ∀ {ds : List Deed} {M M' : Wd} {m : Nat}, Fine M m → (∀ d ∈ ds, DeedOk d) → plays M ds = some M' → Fine M' (m + ds.length)
  | [], M, M', m, f, _, h => by
    cases h
    exact f
  | d :: t, M, M', m, f, ok, h => by
    unfold plays at h
    cases q : actM M d with
    | error e => rw [q] at h; cases h
    | ok p =>
      rw [q] at h
      have := plays_fine (f.act (ok d List.mem_cons_self) (v := p.1) (M' := p.2) q) (fun x hx => ok x (List.mem_cons_of_mem _ hx)) h
      rw [List.length_cons]
      exact this.mono (by omega)
theorem LogAt.same {K : PySem.W.Frag} {H H' : Hp} {p : Addr} {ds : List Deed} (h : LogAt K H p ds) (s : Same H H') : LogAt K H' p ds := by
  obtain ⟨qs, h1, h2⟩ := h
  exact ⟨qs, s _ _ h1, Paired.imp (fun q d e => Same.tup s e) h2⟩
theorem LogAt.lk {K : PySem.W.Frag} {H H' : Hp} {p : Addr} {ds : List Deed} (h : LogAt K H p ds) (s : LK H H') : LogAt K H' p ds := by
  obtain ⟨qs, h1, h2⟩ := h
  exact ⟨qs, s.lst h1, Paired.imp (fun q d e => s.sqt e) h2⟩
theorem paired_get {α β : Type} {F : α → β → Prop} : ∀ {l : List α} {m : List β} {i : Nat} {a : α}, Paired F l m → l[i]? = some a → ∃ b, m[i]? = some b ∧ F a b
  | _, _, i, a, .nil, h => by simp at h
  | _, _, 0, a, .cons f t, h => by
    cases h
    exact ⟨_, rfl, f⟩
  | _, _, i + 1, a, .cons f t, h => by
    obtain ⟨b, h1, h2⟩ := paired_get (i := i) t (by simpa using h)
    exact ⟨b, by simpa using h1, h2⟩
def spPlayed (K : PySem.W.Frag) : Sp := fun vs H Q _ => ∃ (p : Addr) (ds : List Deed) (M : Wd), vs = [.ref p] ∧ LogAt K H p ds ∧ (∀ d ∈ ds, DeedOk d) ∧ ds.length ≤ 1000 ∧ plays ⟨[], 0, 0⟩ ds = some M ∧
  ∀ L H', (∀ b ∈ foot L, H b = none) → WoodAt K H' L → L.wd = M → Same H H' → Q (.ref L.p) H'
abbrev N_played : List Str := ["deeds", "wood", "deed"]
theorem sc_played : FnScope N_played ["deeds"] (defScope s_played) := ⟨rfl, rfl, rfl, by decide +kernel, rfl, by decide +kernel, by decide +kernel⟩
theorem be_played : BindEq "played" "played" s_played ["deeds"] := fun _ _ _ _ _ _ us hl => match us, hl with | [_], _ => rfl
theorem D_played (T : Txt K mg base) : Def P w K mg base 6 (He.ga K "played") ["deeds"] (spPlayed K) := by
  refine mk_def T.f_played sc_played be_played (fun vs H Q E h => ?_) (fun cdv A outer s H vs Q E hr h => ?_)
  · obtain ⟨p, ds, M, rfl, _⟩ := h
    rfl
  · obtain ⟨p, ds, M, rfl, hp, ok, ln, pl, q⟩ := h
    refine ⟨_, (pss_cons (ps_set (i := 1) sc_played.nd rfl (Or.inl rfl) (pe_mk0 T.c_Wood.m (D_Wood___init__ T) (by exact hr.mono (by first | decide | omega)) T.c_Wood.g passE))
      (pss_cons (ps_for ownE rfl (pi_list (pv 0)) (pg_name (i := 2) sc_played.nd rfl (Or.inl rfl))
      (pss_one (ps_expr (pe_cd (D_done T) (by exact hr.mono (by first | decide | omega)) T.g_done passE (pa_cons (pv 1) (pa_cons (pv 2) pa_nil))))))
      (pss_one (ps_ret (pv 1))))), ?_⟩
    walk_at "rd"
    obtain ⟨qs, eq, pq⟩ := hp
    intro wp dx nwp ndx dne
    refine ⟨wp, dx, rfl, upd_same, fun d H1 nd W1 k1 => ⟨rfl, ?_⟩⟩
    have s1 : Same H H1 := fun b o e => k1 b o (ne_of_none e nwp) (by rw [upd_ne (ne_of_none e nwp), upd_ne (ne_of_none e ndx)]; exact e)
    refine forL2 (l := qs) V.ref (fun R' h => ?_) (fun q' i σ' H' => SqL K H' q' (qs.map V.ref) ∧ Same H H' ∧ ∃ (L : Lay) (x2 : Option V), σ' = [some (.ref p), some (.ref wp), x2] ∧ L.p = wp ∧ (∀ b ∈ foot L, H b = none) ∧ WoodAt K H' L ∧ plays ⟨[], 0, 0⟩ (ds.take i) = some L.wd)
      (fun q' H2 s2 h2 => ⟨h2, s1.trans s2, _, _, rfl, rfl, ?_, W1.same s2, rfl⟩) (fun q' i σ' H' _ h => h.1) (fun q' i y σ' H2 D' hi h2 nx ct rt _ => ?_) (fun q' σ' H2 h2 => ?_)
    · walk_at "rd"
      exact h p H1 (Same.refl _) (SqL.of (s1 _ _ eq))
    · intro b hb
      cases hb with
      | head => exact nwp
      | tail _ hb =>
        cases hb with
        | head => exact none_back (fun b o e => by rw [upd_ne (ne_of_none e nwp), upd_ne (ne_of_none e ndx)]; exact e) nd
        | tail _ hb => cases hb
    · obtain ⟨hq, s2, L, x2, rfl, ep, nf, W2, pl2⟩ := h2
      walk_at "rd"
      obtain ⟨dd, hdd, hyd⟩ := paired_get pq hi
      have okd : DeedOk dd := ok dd (List.mem_of_getElem? hdd)
      have f2 : Fine L.wd (0 + (ds.take i).length) := plays_fine fine0 (fun x hx => ok x (List.mem_of_mem_take hx)) pl2
      have lt : (ds.take i).length ≤ 1000 := Nat.le_trans (by rw [List.length_take]; exact Nat.min_le_right _ _) ln
      have tk : ds.take (i + 1) = ds.take i ++ [dd] := by rw [List.take_add_one, hdd]; rfl
      have sp : ∃ v M2, actM L.wd dd = .ok (v, M2) := by
        cases ea : actM L.wd dd with
        | ok r => exact ⟨_, _, rfl⟩
        | error e =>
          exfalso
          have h := pl
          rw [← List.take_append_drop (i + 1) ds, plays_app, tk, plays_app, pl2] at h
          simp only [Option.bind, plays] at h
          rw [ea] at h
          cases h
      obtain ⟨v, M2, ea⟩ := sp
      refine ⟨L, y, _, dd.led, by rw [ep], Same.tup s2 hyd, led_dats dd, W2, f2.G, led_ok okd, f2.ents (by omega), fun v' M' e' H3 L' W3 w3 S3 => nx _ _ ⟨((S3.lk W2).seq hq), fun b o e => S3.keep b o (fun hb => by rw [nf b hb] at e; cases e) (s2 b o e), L', _, rfl, S3.p.trans ep, fun b hb => ?_, W3, ?_⟩, fun e he => ?_⟩
      · rcases S3.new b hb with z | z
        · exact nf b z
        · exact none_back s2 z
      · rw [led_act okd] at e'
        rw [tk, plays_snoc pl2 e', w3]
      · rw [led_act okd, ea] at he
        cases he
    · obtain ⟨hq, s2, L, x2, rfl, ep, nf, W2, pl2⟩ := h2
      walk_at "rd"
      have e1 : ds.take qs.length = ds := by rw [pq.length]; exact List.take_length
      rw [e1, pl] at pl2
      cases pl2
      rw [← ep]
      exact q L H2 nf W2 rfl s2
end
end Vw
namespace Vw
open PySem PySem.Spec PyProof.Rows L2
local macro_rules | `(tactic| walk_at "rd") => `(tactic| simp only [tSeq, tNext, tIfS, tAsg, tRet, tRetN, tDrop, tVar, tC, tOp, tUn, tTest, tB, tAnd, tOr, tNot, tAndV, tOrV, tNotV, tIf, tChain, tCB, tCons, tNil, tCall, tMeth, tMake, tFld, sFld, tTup, tLst, tTupS, tLstS, tDNewKS, tDNewTS, tTold, tCmp, t2I, tIsN, tNotN, tPar, gName, gNil, gCons, gTup, gSub, rI0, rU, rEq, rNe, tDGet, tDIn, tDNotIn, sDPut, tDNewK, tDGet1, tDGet2, tDPop1, tDPop2, tBM, tBM0, tM0, tM1, tSl, tPart, tNoPart, tBreak, tCont, tThru, L2.start, List.map_cons, List.map_nil, List.length_cons, List.length_nil, List.cons_append, List.nil_append, List.append_nil, List.replicate_succ, List.replicate_zero, Nat.reduceAdd, Nat.reduceSub, Nat.zero_add, List.getElem?_cons_zero, List.getElem?_cons_succ, List.set_cons_zero, List.set_cons_succ, wipe, cxOf_K, tYes, List.cons.injEq, and_self, Option.some.injEq, V.int.injEq, V.bl.injEq, V.ref.injEq, V.str.injEq, exists_eq_left', exists_eq_left, exists_and_left, and_assoc, true_and, and_true, if_true, if_false, ite_true, ite_false, Bool.not_true, Bool.not_false, Bool.false_eq_true, reduceIte])
/-! ### ledgers -/
structure GLay where
  p : Addr
  dx : Addr
  dl : Addr
  tl : Addr
  L : Lay
  ds : List Deed
  ts : List Deed
abbrev cG (K : PySem.W.Frag) : Addr := He.ga K "Ledger"
def lgFs (G : GLay) : List (Str × L2.V) := [("deeds", .ref G.dl), ("taken", .ref G.tl), ("grown", .ref G.L.p)]
def footG (G : GLay) : List Addr := G.p :: G.dl :: G.tl :: foot G.L
structure LgAt (K : PySem.W.Frag) (H : Hp) (G : GLay) : Prop where
  top : H G.p = some (.ins (cG K) G.dx (lgFs G))
  dd : LogAt K H G.dl G.ds
  tt : LogAt K H G.tl G.ts
  ne : G.dl ≠ G.tl
  wd : WoodAt K H G.L
  pL : G.p ∉ foot G.L
  ok : ∀ d ∈ G.ds ++ G.ts, DeedOk d
  pl : plays ⟨[], 0, 0⟩ G.ds = some G.L.wd
  pt : (plays G.L.wd G.ts.reverse).isSome = true
  sz : G.ds.length + G.ts.length ≤ 900
theorem LgAt.same {K : PySem.W.Frag} {H H' : Hp} {G : GLay} (r : LgAt K H G) (s : Same H H') : LgAt K H' G :=
  ⟨s _ _ r.top, r.dd.same s, r.tt.same s, r.ne, r.wd.same s, r.pL, r.ok, r.pl, r.pt, r.sz⟩
section
variable (G : GLay)
theorem fg_deeds : (lgFs G).lookup (Str.ofString "deeds") = some (.ref G.dl) := by simp [lgFs, lookup_if, ofString_inj]
theorem fg_taken : (lgFs G).lookup (Str.ofString "taken") = some (.ref G.tl) := by simp [lgFs, lookup_if, ofString_inj]
theorem fg_grown : (lgFs G).lookup (Str.ofString "grown") = some (.ref G.L.p) := by simp [lgFs, lookup_if, ofString_inj]
theorem fg_no {m : String} (h1 : m ≠ "deeds") (h2 : m ≠ "taken") (h3 : m ≠ "grown") : (lgFs G).lookup (Str.ofString m) = none := by
  simp [lgFs, lookup_if, ofString_inj, h1, h2, h3]
end
theorem LgAt.fine {K : PySem.W.Frag} {H : Hp} {G : GLay} (r : LgAt K H G) : Fine G.L.wd G.ds.length := by
  have := plays_fine fine0 (fun x hx => r.ok x (List.mem_append_left _ hx)) r.pl
  rwa [Nat.zero_add] at this
structure GStep (H : Hp) (G : GLay) (H' : Hp) (G' : GLay) : Prop where
  p : G'.p = G.p
  keep : ∀ b o, b ∉ footG G → H b = some o → H' b = some o
  new : ∀ b ∈ footG G', b ∈ footG G ∨ H b = none
structure TxtD (K : PySem.W.Frag) (w : World) : Prop where
  kd : ∃ es n, KDict K w (He.ga K "SIZES") es n
  tick : ∃ u, PySem.W.nsIn K (He.ga K "SIZES") "tick" = some (some u) ∧ RelV (.int 2) u
  say : ∃ u, PySem.W.nsIn K (He.ga K "SIZES") "say" = some (some u) ∧ RelV (.int 4) u
  change : ∃ u, PySem.W.nsIn K (He.ga K "SIZES") "change" = some (some u) ∧ RelV (.int 4) u
  strike : ∃ u, PySem.W.nsIn K (He.ga K "SIZES") "strike" = some (some u) ∧ RelV (.int 3) u
  vote : ∃ u, PySem.W.nsIn K (He.ga K "SIZES") "vote" = some (some u) ∧ RelV (.int 4) u
  stop : PySem.W.nsIn K (He.ga K "SIZES") "stop" = some none
  say2 : PySem.W.nsIn K (He.ga K "SIZES") "Say" = some none
theorem cut_takeE (xs : List V) (k : Nat) : cutV xs none (some (k : Int)) = xs.take k := by
  unfold cutV
  rw [HT.sIx_nat, HT.sIx_none, List.drop_zero]
  by_cases c : k ≤ xs.length
  · rw [Nat.min_eq_left c, Nat.sub_zero]
  · rw [Nat.min_eq_right (by omega), Nat.sub_zero, List.take_length, List.take_of_length_le (by omega)]
theorem Paired.take {α β : Type} {F : α → β → Prop} : ∀ (n : Nat) {l : List α} {m : List β}, Paired F l m → Paired F (l.take n) (m.take n)
  | 0, _, _, _ => .nil
  | _ + 1, _, _, .nil => .nil
  | n + 1, _, _, .cons f t => .cons f (Paired.take n t)
theorem LogAt.take {K : PySem.W.Frag} {H : Hp} {p q : Addr} {ds : List Deed} {qs : List Addr} (n : Nat) (h : H q = some (.lst ((qs.take n).map V.ref))) (pq : Paired (fun q d => SqT K H q d.ltup) qs ds) : LogAt K H q (ds.take n) := ⟨_, h, Paired.take n pq⟩
theorem drop_cons {α : Type} : ∀ {l : List α} {i : Nat} {a : α}, l[i]? = some a → l.drop i = a :: l.drop (i + 1)
  | [], _, _, h => by simp at h
  | x :: t, 0, a, h => by
    cases h
    rfl
  | x :: t, i + 1, a, h => by
    have := drop_cons (l := t) (i := i) (a := a) (by simpa using h)
    simpa using this
theorem atI0 (a : V) (r : List V) : atI (a :: r) 0 = some a := by
  unfold atI ixN
  simp
def stops (M : Wd) (d : Deed) (t : Int) : Bool := match d with
  | .tick k _ => decide (M.clock + k > t)
  | _ => false
def asOfM (M : Wd) : List Deed → Int → Wd
  | [], _ => M
  | d :: r, t => if stops M d t = true then M else asOfM (actW M d) r t
inductive NoDeed (K : PySem.W.Frag) (H : Hp) : V → Prop
  | no {x : V} {d : PyData} : Dp K H x d → (∀ ds, d ≠ .tuple ds) → NoDeed K H x
  | nil {q : Addr} : SqT K H q [] → NoDeed K H (.ref q)
  | head {q : Addr} {y : V} {r : List V} {d : PyData} {ds : List PyData} : SqT K H q (y :: r) → DpAll K H (y :: r) (d :: ds) → (∀ z, d ≠ .str z) → NoDeed K H (.ref q)
  | word {q : Addr} {z : Str} {r : List V} {ds : List PyData} : SqT K H q (.str z :: r) → DpAll K H r ds → PySem.W.nsIn K (He.ga K "SIZES") z = some none → NoDeed K H (.ref q)
  | size {q : Addr} {z : Str} {r : List V} {ds : List PyData} {u : Value} {k : Int} : SqT K H q (.str z :: r) → DpAll K H r ds → PySem.W.nsIn K (He.ga K "SIZES") z = some (some u) → RelV (.int k) u → (r.length + 1 : Nat) ≠ k → NoDeed K H (.ref q)
theorem isi_no {d : PyData} {t : String} (h : (tyName d == t) = false) (h2 : kitB (tyName d) t = some (tyName d == t)) : kitB (tyName d) t = some false := by rw [h2, h]
section
variable {P : Program} {w : World} {K : PySem.W.Frag} {mg : Str → Option Value} {base : Heap}
def spLgInit (K : PySem.W.Frag) : Sp := fun vs H Q _ => ∃ (p dx : Addr) (H0 : Hp), vs = [.ref p] ∧ H p = some (.ins (cG K) dx []) ∧ H0 p = none ∧ Same H0 H ∧
  ∀ G H', G.p = p → G.ds = [] → G.ts = [] → G.L.wd = ⟨[], 0, 0⟩ → LgAt K H' G → Same H0 H' → (∀ b ∈ footG G, H0 b = none) → Q .non H'
abbrev N_Ledger___init__ : List Str := ["self"]
theorem sc_Ledger___init__ : FnScope N_Ledger___init__ ["self"] (defScope s_Ledger___init__) := ⟨rfl, rfl, rfl, by decide +kernel, rfl, by decide +kernel, by decide +kernel⟩
theorem be_Ledger___init__ : BindEq "__init__" "Ledger.__init__" s_Ledger___init__ ["self"] := fun _ _ _ _ _ _ us hl => match us, hl with | [_], _ => rfl
theorem D_Ledger___init__ (T : Txt K mg base) : Def P w K mg base 4 (He.ma K (He.ga K "Ledger") "__init__") ["self"] (spLgInit K) := by
  refine mk_def T.f_Ledger___init__ sc_Ledger___init__ be_Ledger___init__ (fun vs H Q E h => ?_) (fun cdv A outer s H vs Q E hr h => ?_)
  · obtain ⟨p, dx, H0, rfl, _⟩ := h
    rfl
  · obtain ⟨p, dx, H0, rfl, hp, np, s0, k⟩ := h
    refine ⟨_, (pss_cons (ps_fld (pv 0) (pe_lstS pa_nil) (by rfl))
      (pss_cons (ps_fld (pv 0) (pe_lstS pa_nil) (by rfl))
      (pss_one (ps_fld (pv 0) (pe_mk0 T.c_Wood.m (D_Wood___init__ T) (by exact hr.mono (by first | decide | omega)) T.c_Wood.g passE) (by rfl))))), ?_⟩
    walk_at "rd"
    have sp : ∀ {H2 : Hp}, Same H0 H2 → ∀ o, Same H0 (upd H2 p o) := fun {H2} h o => h.over np
    refine ⟨Nat.zero_le _, fun d1 H1 n1 s1 e1 => ⟨_, _, _, s1 _ _ hp, T.c_Ledger.c, T.n_Ledger_deeds, by decide, Nat.zero_le _, fun d2 H2 n2 s2 e2 => ⟨_, _, _, s2 _ _ upd_same, T.c_Ledger.c, T.n_Ledger_taken, by simp [putF], fun wp wx nwp nwx wne => ?_⟩⟩⟩
    have z2 : Same H0 (upd H2 p (.ins (cG K) dx (putF (Str.ofString "taken") (.ref d2) (putF (Str.ofString "deeds") (.ref d1) [])))) := sp ((sp (s0.trans s1) _).trans s2) _
    have np2 : wp ≠ p := fun c => by rw [c, upd_same] at nwp; cases nwp
    have d1p : d1 ≠ p := fun c => by rw [c, hp] at n1; cases n1
    have d2p : d2 ≠ p := fun c => by rw [c, upd_same] at n2; cases n2
    have d12 : d1 ≠ d2 := fun c => by rw [← c, upd_ne d1p, e1] at n2; cases n2
    have e1' : H2 d1 = some (.lst []) := s2 _ _ (by rw [upd_ne d1p]; exact e1)
    refine ⟨wp, wx, rfl, upd_same, fun wd H3 nd W3 k3 => ⟨rfl, _, _, _, k3 _ _ (Ne.symm np2) (by rw [upd_ne (Ne.symm np2), upd_ne (fun c => by rw [← c, upd_same] at nwx; cases nwx)]; exact upd_same), T.c_Ledger.c, T.n_Ledger_grown, by simp [putF, ofString_inj], ?_⟩⟩
    have sW : ∀ b o, upd H2 p (.ins (cG K) dx (putF (Str.ofString "taken") (.ref d2) (putF (Str.ofString "deeds") (.ref d1) []))) b = some o → H3 b = some o := fun b o e => k3 b o (ne_of_none e nwp) (by rw [upd_ne (ne_of_none e nwp), upd_ne (ne_of_none e nwx)]; exact e)
    have s3 : Same H0 H3 := z2.trans sW
    have wdp : wd ≠ p := fun c => by
      rw [c, upd_ne (Ne.symm np2), upd_ne (fun c => by rw [← c, upd_same] at nwx; cases nwx), upd_same] at nd
      cases nd
    have o1 : H3 d1 = some (.lst []) := sW _ _ (by rw [upd_ne d1p]; exact e1')
    have o2 : H3 d2 = some (.lst []) := sW _ _ (by rw [upd_ne d2p]; exact e2)
    refine k ⟨p, dx, d1, d2, ⟨wp, wx, wd, [], 0, 0⟩, [], []⟩ _ rfl rfl rfl rfl ⟨?_, ⟨[], ?_, .nil⟩, ⟨[], ?_, .nil⟩, d12, ?_, ?_, by simp, rfl, rfl, by simp⟩ (s3.over np) ?_
    · rw [upd_same]
      simp [putF, ofString_inj, lgFs]
    · rw [upd_ne d1p]
      exact o1
    · rw [upd_ne d2p]
      exact o2
    · refine W3.wkF fun b o hb e => ?_
      have : b ≠ p := fun c => by
        rw [c] at hb
        cases hb with
        | head => exact np2 rfl
        | tail _ hb =>
          cases hb with
          | head => exact wdp rfl
          | tail _ hb => cases hb
      rw [upd_ne this]
      exact e
    · intro hb
      cases hb with
      | head => exact np2 rfl
      | tail _ hb =>
        cases hb with
        | head => exact wdp rfl
        | tail _ hb => cases hb
    · intro b hb
      cases hb with
      | head => exact np
      | tail _ hb =>
        cases hb with
        | head => exact none_back (s0) n1
        | tail _ hb =>
          cases hb with
          | head => exact none_back (sp (s0.trans s1) _) n2
          | tail _ hb =>
            cases hb with
            | head => exact none_back z2 nwp
            | tail _ hb =>
              cases hb with
              | head => exact none_back (z2.trans (fun b o e => by rw [upd_ne (ne_of_none e nwp), upd_ne (ne_of_none e nwx)]; exact e)) nd
              | tail _ hb => cases hb
def spLLog (K : PySem.W.Frag) : Sp := fun vs H Q _ => ∃ G : GLay, vs = [.ref G.p] ∧ LgAt K H G ∧ ∀ D H', H D = none → Same H H' → LogAt K H' D G.ds → Q (.ref D) H'
def spLWhole (K : PySem.W.Frag) : Sp := fun vs H Q _ => ∃ G : GLay, vs = [.ref G.p] ∧ LgAt K H G ∧ ∀ L H', (∀ b ∈ foot L, H b = none) → WoodAt K H' L → L.wd = G.L.wd → Same H H' → Q (.ref L.p) H'
abbrev N_Ledger_whole : List Str := ["self"]
theorem sc_Ledger_whole : FnScope N_Ledger_whole ["self"] (defScope s_Ledger_whole) := ⟨rfl, rfl, rfl, by decide +kernel, rfl, by decide +kernel, by decide +kernel⟩
theorem be_Ledger_whole : BindEq "whole" "Ledger.whole" s_Ledger_whole ["self"] := fun _ _ _ _ _ _ us hl => match us, hl with | [_], _ => rfl
theorem D_Ledger_whole (T : Txt K mg base) : Def P w K mg base 7 (He.ma K (He.ga K "Ledger") "whole") ["self"] (spLWhole K) := by
  refine mk_def T.f_Ledger_whole sc_Ledger_whole be_Ledger_whole (fun vs H Q E h => ?_) (fun cdv A outer s H vs Q E hr h => ?_)
  · obtain ⟨G, rfl, _⟩ := h
    rfl
  · obtain ⟨G, rfl, r, q⟩ := h
    refine ⟨_, (pss_one (ps_ret (pe_cd (D_played T) (by exact hr.mono (by first | decide | omega)) T.g_played passE (pa_cons (pe_fld (pv 0) (by rfl)) pa_nil)))), ?_⟩
    walk_at "rd"
    refine fld r.top T.c_Ledger.c T.n_Ledger_deeds (fg_deeds G) ⟨G.dl, G.ds, G.L.wd, rfl, r.dd, fun d hd => r.ok d (List.mem_append_left _ hd), by have := r.sz; omega, r.pl, q⟩
def spLBehind (K : PySem.W.Frag) : Sp := fun vs H Q E => ∃ (G : GLay) (x : V) (d : PyData), vs = [.ref G.p, x] ∧ LgAt K H G ∧ Dp K H x d ∧
  (∀ n : Nat, d = .int n → n ≤ G.ds.length → ∀ M, plays ⟨[], 0, 0⟩ (G.ds.take n) = some M → ∀ L H', (∀ b ∈ foot L, H b = none) → WoodAt K H' L → L.wd = M → Same H H' → Q (.ref L.p) H') ∧
  (isCount d 0 G.ds.length = false → ∀ H', Same H H' → Bad K E .number H')
abbrev N_Ledger_behind : List Str := ["self", "many"]
theorem sc_Ledger_behind : FnScope N_Ledger_behind ["self", "many"] (defScope s_Ledger_behind) := ⟨rfl, rfl, rfl, by decide +kernel, rfl, by decide +kernel, by decide +kernel⟩
theorem be_Ledger_behind : BindEq "behind" "Ledger.behind" s_Ledger_behind ["self", "many"] := fun _ _ _ _ _ _ us hl => match us, hl with | [_, _], _ => rfl
theorem D_Ledger_behind (T : Txt K mg base) : Def P w K mg base 7 (He.ma K (He.ga K "Ledger") "behind") ["self", "many"] (spLBehind K) := by
  refine mk_def T.f_Ledger_behind sc_Ledger_behind be_Ledger_behind (fun vs H Q E h => ?_) (fun cdv A outer s H vs Q E hr h => ?_)
  · obtain ⟨G, x, d, rfl, _⟩ := h
    rfl
  · obtain ⟨G, x, d, rfl, r, hx, k1, k0⟩ := h
    refine ⟨_, (pss_cons (ps_if (pt_not (pt_val (pe_cd (D_is_count T) (by exact hr.mono (by first | decide | omega)) T.g_is_count passE (pa_cons (pv 1) (pa_cons pe_int (pa_cons (pe_callB call_len_seq (by rfl) T.b_len (by decide +kernel) (pa_cons (pe_fld (pv 0) (by rfl)) pa_nil)) pa_nil)))))) (pss_one (ps_rs T.x_BadNumber)) pss_nil)
      (pss_one (ps_ret (pe_cd (D_played T) (by exact hr.mono (by first | decide | omega)) T.g_played passE (pa_cons (pe_slice sl_listN (pe_fld (pv 0) (by rfl)) po_none (po_some (pv 1))) pa_nil))))), ?_⟩
    walk_at "rd"
    obtain ⟨qs, e, pq⟩ := r.dd
    have ll : qs.length = G.ds.length := pq.length
    refine fld r.top T.c_Ledger.c T.n_Ledger_deeds (fg_deeds G) ⟨_, rfl, _, .inl (SqL.of e), x, d, 0, _, rfl, hx, _, rfl, ?_⟩
    rw [List.length_map, ll]
    cases ec : isCount d 0 G.ds.length with
    | false => exact k0 ec H (Same.refl _)
    | true =>
      have hd : ∃ n : Nat, d = .int n ∧ n ≤ G.ds.length := by
        cases d with
        | int i =>
          have : 0 ≤ i ∧ i ≤ G.ds.length := by simpa [isCount] using ec
          exact ⟨i.toNat, by rw [Int.toNat_of_nonneg this.1], by omega⟩
        | _ => cases ec
      obtain ⟨n, rfl, hn⟩ := hd
      cases hx
      refine fld r.top T.c_Ledger.c T.n_Ledger_deeds (fg_deeds G) ⟨_, rfl, _, _, rfl, SqL.of e, fun q1 H1 n1 s1 e1 => ?_⟩
      rw [cut_takeE, ← List.map_take] at e1
      have pm : ∃ M, plays ⟨[], 0, 0⟩ (G.ds.take n) = some M := by
        have h := r.pl
        rw [← List.take_append_drop n G.ds, plays_app] at h
        cases e : plays ⟨[], 0, 0⟩ (G.ds.take n) with
        | some M => exact ⟨M, rfl⟩
        | none => rw [e] at h; cases h
      obtain ⟨M, hM⟩ := pm
      exact ⟨q1, G.ds.take n, M, rfl, ⟨_, e1, Paired.imp (fun q d h => Same.tup s1 h) (Paired.take n pq)⟩, fun d hd => r.ok d (List.mem_append_left _ (List.mem_of_mem_take hd)), by have := r.sz; rw [List.length_take]; omega, hM, fun L H' nf W e s' => k1 n rfl hn M hM L H' (fun b hb => none_back s1 (nf b hb)) W e (s1.trans s')⟩
def spLAsOf (K : PySem.W.Frag) : Sp := fun vs H Q E => ∃ (G : GLay) (x : V) (d : PyData), vs = [.ref G.p, x] ∧ LgAt K H G ∧ Dp K H x d ∧
  (∀ t, d = .int t → isCount d 0 G.L.clock = true → ∀ L H', (∀ b ∈ foot L, H b = none) → WoodAt K H' L → L.wd = asOfM ⟨[], 0, 0⟩ G.ds t → Same H H' → Q (.ref L.p) H') ∧
  (isCount d 0 G.L.clock = false → ∀ H', Same H H' → Bad K E .number H')
abbrev N_Ledger_as_of : List Str := ["self", "time", "wood", "deed"]
theorem sc_Ledger_as_of : FnScope N_Ledger_as_of ["self", "time"] (defScope s_Ledger_as_of) := ⟨rfl, rfl, rfl, by decide +kernel, rfl, by decide +kernel, by decide +kernel⟩
theorem be_Ledger_as_of : BindEq "as_of" "Ledger.as_of" s_Ledger_as_of ["self", "time"] := fun _ _ _ _ _ _ us hl => match us, hl with | [_, _], _ => rfl
theorem D_Ledger_as_of (T : Txt K mg base) : Def P w K mg base 6 (He.ma K (He.ga K "Ledger") "as_of") ["self", "time"] (spLAsOf K) := by
  refine mk_def T.f_Ledger_as_of sc_Ledger_as_of be_Ledger_as_of (fun vs H Q E h => ?_) (fun cdv A outer s H vs Q E hr h => ?_)
  · obtain ⟨G, x, d, rfl, _⟩ := h
    rfl
  · obtain ⟨G, x, d, rfl, r, hx, k1, k0⟩ := h
    refine ⟨_, (pss_cons (ps_if (pt_not (pt_val (pe_cd (D_is_count T) (by exact hr.mono (by first | decide | omega)) T.g_is_count passE (pa_cons (pv 1) (pa_cons pe_int (pa_cons (pe_md0 (pe_fld (pv 0) (by rfl)) T.c_Wood.c T.m_Wood_now (D_Wood_now T) (by exact hr.mono (by first | decide | omega)) passE) pa_nil)))))) (pss_one (ps_rs T.x_BadNumber)) pss_nil)
      (pss_cons (ps_set (i := 2) sc_Ledger_as_of.nd rfl (Or.inl rfl) (pe_mk0 T.c_Wood.m (D_Wood___init__ T) (by exact hr.mono (by first | decide | omega)) T.c_Wood.g passE))
      (pss_cons (ps_for ownE rfl (pi_list (pe_fld (pv 0) (by rfl))) (pg_name (i := 3) sc_Ledger_as_of.nd rfl (Or.inl rfl))
      (pss_cons (ps_if (PW.pt (pw_and (pt_cmpR op_eq (pe_ix ix_tup (pv 3) pe_int (fun _ _ => rfl)) pe_str (nomark _)) (pw_and1 (pt_cmpR op_gt (pe_op op_add (pe_md0 (pv 2) T.c_Wood.c T.m_Wood_now (D_Wood_now T) (by exact hr.mono (by first | decide | omega)) passE) (pe_ix ix_tup (pv 3) pe_int (fun _ _ => rfl))) (pv 1) (nomark _))))) (pss_one (ps_ret (pv 2))) pss_nil)
      (pss_one (ps_expr (pe_cd (D_done T) (by exact hr.mono (by first | decide | omega)) T.g_done passE (pa_cons (pv 2) (pa_cons (pv 3) pa_nil)))))))
      (pss_one (ps_ret (pv 2)))))), ?_⟩
    walk_at "rd"
    have nofw : ∀ {L : Lay} {m : String}, m ≠ "sayings" → m ≠ "came" → m ≠ "clock" → (woodFs L.d L.came L.clock).lookup (Str.ofString m) = none := fun h1 h2 h3 => fw_no _ _ _ h1 h2 h3
    refine fld r.top T.c_Ledger.c T.n_Ledger_grown (fg_grown G) ⟨_, rfl, _, _, r.wd.top, nofw (by decide) (by decide) (by decide), G.L, rfl, r.wd, x, d, 0, _, rfl, hx, _, rfl, ?_⟩
    cases ec : isCount d 0 G.L.clock with
    | false => exact k0 ec H (Same.refl _)
    | true =>
      have hd : ∃ t, d = .int t := by
        cases d with
        | int i => exact ⟨i, rfl⟩
        | _ => cases ec
      obtain ⟨t, rfl⟩ := hd
      cases hx
      refine iteF ?_
      obtain ⟨qs, eq, pq⟩ := r.dd
      intro wp dx nwp ndx dne
      refine ⟨wp, dx, rfl, upd_same, fun d H1 nd W1 k1' => ⟨rfl, ?_⟩⟩
      have s1 : Same H H1 := fun b o e => k1' b o (ne_of_none e nwp) (by rw [upd_ne (ne_of_none e nwp), upd_ne (ne_of_none e ndx)]; exact e)
      have dok : ∀ d ∈ G.ds, DeedOk d := fun d hd => r.ok d (List.mem_append_left _ hd)
      refine forL2 (l := qs) V.ref (fun R' h => ?_) (fun q' i σ' H' => SqL K H' q' (qs.map V.ref) ∧ Same H H' ∧ ∃ (L : Lay) (x2 : Option V), σ' = [some (.ref G.p), some (.int t), some (.ref wp), x2] ∧ L.p = wp ∧ (∀ b ∈ foot L, H b = none) ∧ WoodAt K H' L ∧ plays ⟨[], 0, 0⟩ (G.ds.take i) = some L.wd ∧ asOfM ⟨[], 0, 0⟩ G.ds t = asOfM L.wd (G.ds.drop i) t)
        (fun q' H2 s2 h2 => ⟨h2, s1.trans s2, _, _, rfl, rfl, ?_, W1.same s2, rfl, rfl⟩) (fun q' i σ' H' _ h => h.1) (fun q' i y σ' H2 D' hi h2 nx ct rt _ => ?_) (fun q' σ' H2 h2 => ?_)
      · walk_at "rd"
        exact fld (s1 _ _ r.top) T.c_Ledger.c T.n_Ledger_deeds (fg_deeds G) (h G.dl H1 (Same.refl _) (SqL.of (s1 _ _ eq)))
      · intro b hb
        cases hb with
        | head => exact nwp
        | tail _ hb =>
          cases hb with
          | head => exact none_back (fun b o e => by rw [upd_ne (ne_of_none e nwp), upd_ne (ne_of_none e ndx)]; exact e) nd
          | tail _ hb => cases hb
      · obtain ⟨hq, s2, L, x2, rfl, ep, nf, W2, pl2, as2⟩ := h2
        obtain ⟨dd, hdd, hyd⟩ := paired_get pq hi
        have okd : DeedOk dd := dok dd (List.mem_of_getElem? hdd)
        have f2 : Fine L.wd (0 + (G.ds.take i).length) := plays_fine fine0 (fun x hx => dok x (List.mem_of_mem_take hx)) pl2
        have lt : (G.ds.take i).length ≤ 900 := Nat.le_trans (by rw [List.length_take]; exact Nat.min_le_right _ _) (by have := r.sz; omega)
        have tk : G.ds.take (i + 1) = G.ds.take i ++ [dd] := by rw [List.take_add_one, hdd]; rfl
        have dr : G.ds.drop i = dd :: G.ds.drop (i + 1) := drop_cons hdd
        have sp : ∃ v M2, actM L.wd dd = .ok (v, M2) := by
          cases ea : actM L.wd dd with
          | ok r => exact ⟨_, _, rfl⟩
          | error e =>
            exfalso
            have h := r.pl
            rw [← List.take_append_drop (i + 1) G.ds, plays_app, tk, plays_app, pl2] at h
            simp only [Option.bind, plays] at h
            rw [ea] at h
            cases h
        obtain ⟨v, M2, ea⟩ := sp
        have stp : stops L.wd dd t = false → spDone K [.ref wp, .ref y] H2 (fun _ H' => D'.nx [some (.ref G.p), some (.int t), some (.ref wp), some (.ref y)] H') E := fun ns =>
          ⟨L, y, _, dd.led, by rw [ep], Same.tup s2 hyd, led_dats dd, W2, f2.G, led_ok okd, f2.ents (by omega), fun v' M' e' H3 L' W3 w3 S3 => nx _ _ ⟨((S3.lk W2).seq hq), fun b o e => S3.keep b o (fun hb => by rw [nf b hb] at e; cases e) (s2 b o e), L', _, rfl, S3.p.trans ep, fun b hb => by
              rcases S3.new b hb with z | z
              · exact nf b z
              · exact none_back s2 z, W3, by
              rw [led_act okd] at e'
              rw [tk, plays_snoc pl2 e', w3], by
              rw [led_act okd] at e'
              rw [as2, dr]
              show (if stops L.wd dd t = true then L.wd else asOfM (actW L.wd dd) (G.ds.drop (i + 1)) t) = _
              rw [ns]
              unfold actW
              rw [e', w3]
              rfl⟩, fun e he => by
              rw [led_act okd, ea] at he
              cases he⟩
        walk_at "rd"
        have yd : SqT K H2 y dd.ltup := Same.tup s2 hyd
        cases dd with
        | tick k who =>
          refine ⟨y, _, 0, .str "tick", rfl, rfl, yd, rfl, rfl, ?_⟩
          rw [dq1]
          refine iteT ⟨_, _, ep ▸ W2.top, nofw (by decide) (by decide) (by decide), L, by rw [ep], W2, y, _, 1, .int k, rfl, rfl, yd, rfl, _, rfl, _, rfl, ?_⟩
          by_cases c : t < L.clock + k
          · rw [if_pos (by simpa using c), rt]
            show Q _ _
            rw [← ep]
            refine k1 t rfl ec L H2 nf W2 ?_ s2
            rw [as2, dr]
            show _ = (if stops L.wd (.tick k who) t = true then L.wd else _)
            rw [if_pos (by show decide (L.clock + k > t) = true; simpa using c)]
          · rw [if_neg (by simpa using c)]
            exact stp (by show decide (L.clock + k > t) = false; simpa using c)
        | say n who text =>
          refine ⟨y, _, 0, .str "say", rfl, rfl, yd, rfl, rfl, ?_⟩
          rw [dq (show "say" ≠ "tick" by decide)]
          exact iteF (stp rfl)
        | change n who text =>
          refine ⟨y, _, 0, .str "change", rfl, rfl, yd, rfl, rfl, ?_⟩
          rw [dq (show "change" ≠ "tick" by decide)]
          exact iteF (stp rfl)
        | strike n who =>
          refine ⟨y, _, 0, .str "strike", rfl, rfl, yd, rfl, rfl, ?_⟩
          rw [dq (show "strike" ≠ "tick" by decide)]
          exact iteF (stp rfl)
        | vote n who way =>
          refine ⟨y, _, 0, .str "vote", rfl, rfl, yd, rfl, rfl, ?_⟩
          rw [dq (show "vote" ≠ "tick" by decide)]
          exact iteF (stp rfl)
      · obtain ⟨hq, s2, L, x2, rfl, ep, nf, W2, pl2, as2⟩ := h2
        walk_at "rd"
        have e1 : G.ds.drop qs.length = [] := by rw [pq.length]; exact List.drop_length
        rw [e1] at as2
        rw [← ep]
        exact k1 t rfl ec L H2 nf W2 as2.symm s2
def spLDo (K : PySem.W.Frag) : Sp := fun vs H Q E => ∃ (G : GLay) (x : V), vs = [.ref G.p, x] ∧ LgAt K H G ∧ G.ds.length < 900 ∧
  ((∃ q dd, x = .ref q ∧ SqT K H q (Deed.ltup dd) ∧ DeedOk dd ∧ (∀ v M, actM G.L.wd dd = .ok (v, M) → ∀ G' H', G'.ds = G.ds ++ [dd] → G'.ts = [] → G'.L.wd = M → LgAt K H' G' → GStep H G H' G' → Q v H') ∧ (∀ e, actM G.L.wd dd = .error e → ∀ H', Same H H' → Bad K E e H')) ∨
   (∃ q xs d e, x = .ref q ∧ SqT K H q xs ∧ DpAll K H xs (LDeed.dats d) ∧ LDeed.ok d ∧ doneM G.L.wd d = .error e ∧ ∀ H', Same H H' → Bad K E e H') ∨
   (NoDeed K H x ∧ ∀ H', Same H H' → Bad K E .deed H'))
abbrev N_Ledger_do : List Str := ["self", "deed", "good", "told"]
theorem sc_Ledger_do : FnScope N_Ledger_do ["self", "deed"] (defScope s_Ledger_do) := ⟨rfl, rfl, rfl, by decide +kernel, rfl, by decide +kernel, by decide +kernel⟩
theorem be_Ledger_do : BindEq "do" "Ledger.do" s_Ledger_do ["self", "deed"] := fun _ _ _ _ _ _ us hl => match us, hl with | [_, _], _ => rfl
theorem D_Ledger_do (T : Txt K mg base) (TD : TxtD K w) : Def P w K mg base 6 (He.ma K (He.ga K "Ledger") "do") ["self", "deed"] (spLDo K) := by
  refine mk_def T.f_Ledger_do sc_Ledger_do be_Ledger_do (fun vs H Q E h => ?_) (fun cdv A outer s H vs Q E hr h => ?_)
  · obtain ⟨G, x, rfl, _⟩ := h
    rfl
  · obtain ⟨G, x, rfl, r, sz, h⟩ := h
    obtain ⟨es, n, hKD⟩ := TD.kd
    refine ⟨_, (pss_cons (ps_set (i := 2) sc_Ledger_do.nd rfl (Or.inl rfl) (pe_and (pe_callB call_isi (by rfl) T.b_isinstance (by decide +kernel) (pa_cons (pv 1) (pa_cons (pe_bltn (v := .ty "tuple") (by rfl) T.b_tuple (by decide +kernel) rfl) pa_nil))) (pe_and (pe_cmpR op_gt (pe_callB call_len_seq (by rfl) T.b_len (by decide +kernel) (pa_cons (pv 1) pa_nil)) pe_int (nomark _)) (pe_and (pe_callB call_isi (by rfl) T.b_isinstance (by decide +kernel) (pa_cons (pe_ix ix_tup (pv 1) pe_int (fun _ _ => rfl)) (pa_cons (pe_bltn (v := .ty "str") (by rfl) T.b_str (by decide +kernel) rfl) pa_nil))) (pe_one (pe_cmpR (op_in_kd hKD) (pe_ix ix_tup (pv 1) pe_int (fun _ _ => rfl)) (pe_gk T.k_SIZES) rfl))))))
      (pss_cons (ps_if (PW.pt (pw_or (pt_not (pt_val (pv 2))) (pw_or1 (pt_cmpR op_ne (pe_callB call_len_seq (by rfl) T.b_len (by decide +kernel) (pa_cons (pv 1) pa_nil)) (pe_ix ix_kdict (pe_gk T.k_SIZES) (pe_ix ix_tup (pv 1) pe_int (fun _ _ => rfl)) (fun _ _ => rfl)) (nomark _))))) (pss_one (ps_rs T.x_BadDeed)) pss_nil)
      (pss_cons (ps_set (i := 3) sc_Ledger_do.nd rfl (Or.inl rfl) (pe_cd (D_done T) (by exact hr.mono (by first | decide | omega)) T.g_done passE (pa_cons (pe_fld (pv 0) (by rfl)) (pa_cons (pv 1) pa_nil))))
      (pss_cons (ps_expr (pe_bm PySem.F.plainAttrs_list PySem.F.slot_list_append PySem.F.type_list_append mt_append (pe_fld (pv 0) (by rfl)) (pa_cons (pv 1) pa_nil)))
      (pss_cons (ps_fld (pv 0) (pe_lstS pa_nil) (by rfl))
      (pss_one (ps_ret (pv 3)))))))), ?_⟩
    have h' : (∃ q z r ds u k, x = .ref q ∧ SqT K H q (.str z :: r) ∧ DpAll K H r ds ∧ PySem.W.nsIn K (He.ga K "SIZES") z = some (some u) ∧ RelV (.int k) u ∧ (((r.length + 1 : Nat) ≠ k ∧ ∀ H', Same H H' → Bad K E .deed H') ∨ ((r.length + 1 : Nat) = k ∧
      ((∃ dd, V.str z :: r = Deed.ltup dd ∧ DeedOk dd ∧ (∀ v M, actM G.L.wd dd = .ok (v, M) → ∀ G' H', G'.ds = G.ds ++ [dd] → G'.ts = [] → G'.L.wd = M → LgAt K H' G' → GStep H G H' G' → Q v H') ∧ (∀ e, actM G.L.wd dd = .error e → ∀ H', Same H H' → Bad K E e H')) ∨
       (∃ d e, DpAll K H (V.str z :: r) (LDeed.dats d) ∧ LDeed.ok d ∧ doneM G.L.wd d = .error e ∧ ∀ H', Same H H' → Bad K E e H'))))) ∨
      ((∃ d, Dp K H x d ∧ (∀ ds, d ≠ .tuple ds)) ∨ (∃ q, x = .ref q ∧ SqT K H q []) ∨ (∃ q y r d ds, x = .ref q ∧ SqT K H q (y :: r) ∧ DpAll K H (y :: r) (d :: ds) ∧ ∀ z, d ≠ .str z) ∨ (∃ q z r ds, x = .ref q ∧ SqT K H q (.str z :: r) ∧ DpAll K H r ds ∧ PySem.W.nsIn K (He.ga K "SIZES") z = some none)) ∧ ∀ H', Same H H' → Bad K E .deed H' := by
      rcases h with ⟨q, dd, rfl, hq, okd, k1, k0⟩ | ⟨q, xs, d, e, rfl, hq, hd, okd, ea, k0⟩ | ⟨nd, k0⟩
      · cases dd with
        | say n who text =>
          obtain ⟨u, h1, h2⟩ := TD.say
          exact .inl ⟨q, _, _, _, u, 4, rfl, hq, .cons (.str _) (.cons (.int _) (.cons (.str _) .nil)), h1, h2, .inr ⟨rfl, .inl ⟨_, rfl, okd, k1, k0⟩⟩⟩
        | tick k who =>
          obtain ⟨u, h1, h2⟩ := TD.tick
          exact .inl ⟨q, _, _, _, u, 2, rfl, hq, .cons (.int _) .nil, h1, h2, .inr ⟨rfl, .inl ⟨.tick k who, rfl, okd, k1, k0⟩⟩⟩
        | change n who text =>
          obtain ⟨u, h1, h2⟩ := TD.change
          exact .inl ⟨q, _, _, _, u, 4, rfl, hq, .cons (.int _) (.cons (.str _) (.cons (.str _) .nil)), h1, h2, .inr ⟨rfl, .inl ⟨_, rfl, okd, k1, k0⟩⟩⟩
        | strike n who =>
          obtain ⟨u, h1, h2⟩ := TD.strike
          exact .inl ⟨q, _, _, _, u, 3, rfl, hq, .cons (.int _) (.cons (.str _) .nil), h1, h2, .inr ⟨rfl, .inl ⟨_, rfl, okd, k1, k0⟩⟩⟩
        | vote n who way =>
          obtain ⟨u, h1, h2⟩ := TD.vote
          exact .inl ⟨q, _, _, _, u, 4, rfl, hq, .cons (.int _) (.cons (.str _) (.cons (.int _) .nil)), h1, h2, .inr ⟨rfl, .inl ⟨_, rfl, okd, k1, k0⟩⟩⟩
      · have hd0 := hd
        cases d with
        | tick a =>
          obtain ⟨u, h1, h2⟩ := TD.tick
          cases hd with
          | cons g0 hd =>
          cases g0
          cases hd with
          | cons g1 hd =>
          cases hd
          exact .inl ⟨q, _, _, _, u, 2, rfl, hq, .cons g1 .nil, h1, h2, .inr ⟨rfl, .inr ⟨_, e, hd0, okd, ea, k0⟩⟩⟩
        | say b v t =>
          obtain ⟨u, h1, h2⟩ := TD.say
          cases hd with
          | cons g0 hd =>
          cases g0
          cases hd with
          | cons g1 hd =>
          cases hd with
          | cons g2 hd =>
          cases hd with
          | cons g3 hd =>
          cases hd
          exact .inl ⟨q, _, _, _, u, 4, rfl, hq, .cons g1 (.cons g2 (.cons g3 .nil)), h1, h2, .inr ⟨rfl, .inr ⟨_, e, hd0, okd, ea, k0⟩⟩⟩
        | change b v t =>
          obtain ⟨u, h1, h2⟩ := TD.change
          cases hd with
          | cons g0 hd =>
          cases g0
          cases hd with
          | cons g1 hd =>
          cases hd with
          | cons g2 hd =>
          cases hd with
          | cons g3 hd =>
          cases hd
          exact .inl ⟨q, _, _, _, u, 4, rfl, hq, .cons g1 (.cons g2 (.cons g3 .nil)), h1, h2, .inr ⟨rfl, .inr ⟨_, e, hd0, okd, ea, k0⟩⟩⟩
        | strike b v =>
          obtain ⟨u, h1, h2⟩ := TD.strike
          cases hd with
          | cons g0 hd =>
          cases g0
          cases hd with
          | cons g1 hd =>
          cases hd with
          | cons g2 hd =>
          cases hd
          exact .inl ⟨q, _, _, _, u, 3, rfl, hq, .cons g1 (.cons g2 .nil), h1, h2, .inr ⟨rfl, .inr ⟨_, e, hd0, okd, ea, k0⟩⟩⟩
        | vote b v t =>
          obtain ⟨u, h1, h2⟩ := TD.vote
          cases hd with
          | cons g0 hd =>
          cases g0
          cases hd with
          | cons g1 hd =>
          cases hd with
          | cons g2 hd =>
          cases hd with
          | cons g3 hd =>
          cases hd
          exact .inl ⟨q, _, _, _, u, 4, rfl, hq, .cons g1 (.cons g2 (.cons g3 .nil)), h1, h2, .inr ⟨rfl, .inr ⟨_, e, hd0, okd, ea, k0⟩⟩⟩
      · cases nd with
        | no h1 h2 => exact .inr ⟨.inl ⟨_, h1, h2⟩, k0⟩
        | nil h1 => exact .inr ⟨.inr (.inl ⟨_, rfl, h1⟩), k0⟩
        | head h1 h2 h3 => exact .inr ⟨.inr (.inr (.inl ⟨_, _, _, _, _, rfl, h1, h2, h3⟩)), k0⟩
        | word h1 h2 h3 => exact .inr ⟨.inr (.inr (.inr ⟨_, _, _, _, rfl, h1, h2, h3⟩)), k0⟩
        | size h1 h2 h3 h4 h5 => exact .inl ⟨_, _, _, _, _, _, rfl, h1, h2, h3, h4, .inl ⟨h5, k0⟩⟩
    walk_at "rd"
    rcases h' with ⟨q, z, r', ds, u, k, rfl, hq, hd, hn, hu, h⟩ | ⟨⟨d, hx, hnt⟩ | ⟨q, rfl, hq⟩ | ⟨q, y, r', d, ds, rfl, hq, hd, hns⟩ | ⟨q, z, r', ds, rfl, hq, hd, hn⟩, k0⟩
    · refine use_isi (.tup hq (.cons (.str _) hd)) rfl ⟨_, rfl, iteT ⟨_, rfl, _, .inr hq, ?_⟩⟩
      rw [if_pos (by simp)]
      refine ⟨q, _, 0, _, rfl, rfl, hq, atI0 _ _, use_isi (.str z) rfl ⟨_, rfl, iteT ⟨q, _, 0, _, rfl, rfl, hq, atI0 _ _, z, rfl, _, hn, iteF ⟨_, rfl, _, .inr hq, q, _, 0, _, rfl, rfl, hq, atI0 _ _, _, _, .int k, rfl, rfl, ?_, ?_⟩⟩⟩⟩
      · obtain ⟨h1, h2, h3⟩ := hKD
        exact ⟨es, n, u, h1, h2, hn, hu⟩
      · show _ ∧ _
        rcases h with ⟨ne, k0⟩ | ⟨ek, h⟩
        · refine ⟨rfl, ?_⟩
          rw [if_pos]
          · exact k0 H (Same.refl _)
          · have : ¬ (V.int ↑(V.str z :: r').length = V.int k) := fun c => by
              injection c with c
              exact ne c
            rw [decide_eq_false this]
            rfl
        · refine ⟨rfl, ?_⟩
          rw [if_neg (by rw [show (V.int ↑(V.str z :: r').length = V.int k) from congrArg V.int ek]; simp)]
          have f2 := r.fine
          rcases h with ⟨dd, edd, okd, k1, k0⟩ | ⟨d, e, hdd, okd, ea, k0⟩
          · rw [edd] at hq
            refine fld r.top T.c_Ledger.c T.n_Ledger_grown (fg_grown G) ⟨G.L, q, _, dd.led, rfl, hq, led_dats dd, r.wd, f2.G, led_ok okd, f2.ents (by omega), fun v M e' H1 L' W1 w1 S1 => ?_, fun e he H1 s1 => k0 e (led_act okd ▸ he) H1 s1⟩
            rw [led_act okd] at e'
            have top1 : H1 G.p = some (.ins (cG K) G.dx (lgFs G)) := S1.keep _ _ r.pL r.top
            obtain ⟨qs, eq, pq⟩ := r.dd.lk (S1.lk r.wd)
            have ll : qs.length = G.ds.length := pq.length
            have z9 : (1000 : Nat) < sizeLine := by rw [sizeLine_eq]; omega
            have dp : G.dl ≠ G.p := ne_of eq top1 (by intro z; cases z)
            have pL' : G.p ∉ foot L' := fun c => by
              rcases S1.new _ c with z | z
              · exact r.pL z
              · rw [r.top] at z; cases z
            have dL' : G.dl ∉ foot L' := fun c => not_lst _ (foot_obj W1 c eq)
            refine fld top1 T.c_Ledger.c T.n_Ledger_deeds (fg_deeds G) ⟨.inl ⟨rfl, _, SqL.of eq⟩, G.dl, _, _, rfl, rfl, eq, by rw [List.length_map]; omega, Nat.zero_le _, fun t2 H2 n2 s2 e2 => ⟨_, _, _, s2 _ _ (by rw [upd_ne (Ne.symm dp)]; exact top1), T.c_Ledger.c, T.n_Ledger_taken, by simp [lgFs], ?_⟩⟩
            have tp : t2 ≠ G.p := fun c => by rw [c, upd_ne (Ne.symm dp), top1] at n2; cases n2
            have td : G.dl ≠ t2 := fun c => by rw [← c, upd_same] at n2; cases n2
            have kp : ∀ b o, b ≠ G.dl → b ≠ G.p → H1 b = some o → upd H2 G.p (.ins (cG K) G.dx (putF (Str.ofString "taken") (.ref t2) (lgFs G))) b = some o := fun b o h1 h2 e => by
              rw [upd_ne h2]
              exact s2 _ _ (by rw [upd_ne h1]; exact e)
            have lt : G.ds.length < 900 := sz
            refine k1 v M e' ⟨G.p, G.dx, G.dl, t2, L', G.ds ++ [dd], []⟩ _ rfl rfl w1 ⟨?_, ⟨qs ++ [q], ?_, ?_⟩, ⟨[], ?_, .nil⟩, td, W1.wkF fun b o hb e => kp b o (fun c => dL' (c ▸ hb)) (fun c => pL' (c ▸ hb)) e, pL', ?_, ?_, rfl, ?_⟩ ⟨rfl, fun b o hb e => ?_, fun b hb => ?_⟩
            · rw [upd_same]
              simp [putF, ofString_inj, lgFs]
              exact S1.p.symm
            · rw [upd_ne dp]
              refine s2 _ _ ?_
              rw [upd_same, List.map_append]
              rfl
            · have kt : ∀ a xs, SqT K H1 a xs → SqT K (upd H2 G.p (.ins (cG K) G.dx (putF (Str.ofString "taken") (.ref t2) (lgFs G)))) a xs := fun a xs h => by
                rcases h with (h | ⟨o, h⟩) | h
                · exact .inl (.inl (kp _ _ (ne_of h eq (by intro z; cases z)) (ne_of h top1 (by intro z; cases z)) h))
                · exact .inl (.inr ⟨o, kp _ _ (ne_of h eq (by intro z; cases z)) (ne_of h top1 (by intro z; cases z)) h⟩)
                · exact .inr h
              exact Paired.app (Paired.imp (fun a d h => kt _ _ h) pq) (.cons (kt _ _ ((S1.lk r.wd).sqt hq)) .nil)
            · rw [upd_ne tp]
              exact e2
            · intro d hd
              rw [List.append_nil] at hd
              rcases List.mem_append.mp hd with hd | hd
              · exact r.ok d (List.mem_append_left _ hd)
              · cases List.mem_singleton.mp hd
                exact okd
            · show plays _ (G.ds ++ [dd]) = some L'.wd
              rw [plays_snoc r.pl e', w1]
            · show (G.ds ++ [dd]).length + 0 ≤ 900
              rw [List.length_append, List.length_singleton]
              omega
            · have h1 : b ≠ G.p := fun c => hb (by rw [c]; exact List.mem_cons_self)
              have h2 : b ≠ G.dl := fun c => hb (by rw [c]; exact List.mem_cons_of_mem _ List.mem_cons_self)
              exact kp b o h2 h1 (S1.keep b o (fun c => hb (List.mem_cons_of_mem _ (List.mem_cons_of_mem _ (List.mem_cons_of_mem _ c)))) e)
            · cases hb with
              | head => exact .inl List.mem_cons_self
              | tail _ hb =>
                cases hb with
                | head => exact .inl (List.mem_cons_of_mem _ List.mem_cons_self)
                | tail _ hb =>
                  cases hb with
                  | head =>
                    by_cases c : t2 ∈ foot G.L
                    · exact .inl (List.mem_cons_of_mem _ (List.mem_cons_of_mem _ (List.mem_cons_of_mem _ c)))
                    · refine .inr ?_
                      rw [upd_ne (Ne.symm td)] at n2
                      cases e0 : H t2 with
                      | none => rfl
                      | some o =>
                        rw [S1.keep _ _ c e0] at n2
                        cases n2
                  | tail _ hb =>
                    rcases S1.new b hb with z | z
                    · exact .inl (List.mem_cons_of_mem _ (List.mem_cons_of_mem _ (List.mem_cons_of_mem _ z)))
                    · exact .inr z
          · refine fld r.top T.c_Ledger.c T.n_Ledger_grown (fg_grown G) ⟨G.L, q, _, d, rfl, hq, hdd, r.wd, f2.G, okd, f2.ents (by omega), fun v M e' => ?_, fun e2 he H1 s1 => ?_⟩
            · rw [ea] at e'
              cases e'
            · rw [ea] at he
              cases he
              exact k0 H1 s1
    · refine use_isi hx (b := false) ?_ ⟨_, rfl, iteF (k0 H (Same.refl _))⟩
      cases d with
      | tuple ds => exact absurd rfl (hnt ds)
      | _ => rfl
    · refine use_isi (.tup hq .nil) rfl ⟨_, rfl, iteT ⟨_, rfl, _, .inr hq, ?_⟩⟩
      rw [if_neg (by simp)]
      exact k0 H (Same.refl _)
    · refine use_isi (.tup hq hd) rfl ⟨_, rfl, iteT ⟨_, rfl, _, .inr hq, ?_⟩⟩
      rw [if_pos (by simp)]
      cases hd with
      | cons g0 hd =>
      refine ⟨q, _, 0, _, rfl, rfl, hq, atI0 _ _, use_isi (b := false) g0 ?_ ⟨_, rfl, iteF (k0 H (Same.refl _))⟩⟩
      cases d with
      | str ds => exact absurd rfl (hns ds)
      | _ => rfl
    · refine use_isi (.tup hq (.cons (.str _) hd)) rfl ⟨_, rfl, iteT ⟨_, rfl, _, .inr hq, ?_⟩⟩
      rw [if_pos (by simp)]
      exact ⟨q, _, 0, _, rfl, rfl, hq, atI0 _ _, use_isi (.str z) rfl ⟨_, rfl, iteT ⟨q, _, 0, _, rfl, rfl, hq, atI0 _ _, z, rfl, _, hn, iteT (k0 H (Same.refl _))⟩⟩⟩
end
end Vw
namespace Vw
open PySem PySem.Spec PyProof.Rows L2
local macro_rules | `(tactic| walk_at "rd") => `(tactic| simp only [tSeq, tNext, tIfS, tAsg, tRet, tRetN, tDrop, tVar, tC, tOp, tUn, tTest, tB, tAnd, tOr, tNot, tAndV, tOrV, tNotV, tIf, tChain, tCB, tCons, tNil, tCall, tMeth, tMake, tFld, sFld, tTup, tLst, tTupS, tLstS, tDNewKS, tDNewTS, tTold, tCmp, t2I, tIsN, tNotN, tPar, gName, gNil, gCons, gTup, gSub, rI0, rU, rEq, rNe, tDGet, tDIn, tDNotIn, sDPut, tDNewK, tDGet1, tDGet2, tDPop1, tDPop2, tBM, tBM0, tM0, tM1, tSl, tPart, tNoPart, tBreak, tCont, tThru, L2.start, List.map_cons, List.map_nil, List.length_cons, List.length_nil, List.cons_append, List.nil_append, List.append_nil, List.replicate_succ, List.replicate_zero, Nat.reduceAdd, Nat.reduceSub, Nat.zero_add, List.getElem?_cons_zero, List.getElem?_cons_succ, List.set_cons_zero, List.set_cons_succ, wipe, cxOf_K, tYes, List.cons.injEq, and_self, Option.some.injEq, V.int.injEq, V.bl.injEq, V.ref.injEq, V.str.injEq, exists_eq_left', exists_eq_left, exists_and_left, and_assoc, true_and, and_true, if_true, if_false, ite_true, ite_false, Bool.not_true, Bool.not_false, Bool.false_eq_true, reduceIte])
section
variable {P : Program} {w : World} {K : PySem.W.Frag} {mg : Str → Option Value} {base : Heap}
def spAsLedger (K : PySem.W.Frag) : Sp := fun vs H Q _ => ∃ (p : Addr) (d : Deed), vs = [.ref p] ∧ SqT K H p d.tup ∧ ∀ q H', H q = none → Same H H' → SqT K H' q d.ltup → Q (.ref q) H'
abbrev N__law_as_ledger : List Str := ["deed", "word"]
theorem sc__law_as_ledger : FnScope N__law_as_ledger ["deed"] (defScope s__law_as_ledger) := ⟨rfl, rfl, rfl, by decide +kernel, rfl, by decide +kernel, by decide +kernel⟩
theorem be__law_as_ledger : BindEq "_law_as_ledger" "_law_as_ledger" s__law_as_ledger ["deed"] := fun _ _ _ _ _ _ us hl => match us, hl with | [_], _ => rfl
theorem D__law_as_ledger (T : Txt K mg base) : Def P w K mg base 1 (He.ga K "_law_as_ledger") ["deed"] (spAsLedger K) := by
  refine mk_def T.f__law_as_ledger sc__law_as_ledger be__law_as_ledger (fun vs H Q E h => ?_) (fun cdv A outer s H vs Q E hr h => ?_)
  · obtain ⟨p, d, rfl, _⟩ := h
    rfl
  · obtain ⟨p, d, rfl, hp, q⟩ := h
    refine ⟨_, (pss_cons (ps_set (i := 1) sc__law_as_ledger.nd rfl (Or.inl rfl) (pe_ix ix_tup (pv 0) pe_int (fun _ _ => rfl)))
      (pss_cons (ps_if (pt_cmpR op_eq (pv 1) pe_str (nomark _)) (pss_one (ps_ret (pe_tupS (pa_cons pe_str (pa_cons (pe_ix ix_tup (pv 0) pe_int (fun _ _ => rfl)) (pa_cons (pe_ix ix_tup (pv 0) pe_int (fun _ _ => rfl)) (pa_cons (pe_ix ix_tup (pv 0) pe_int (fun _ _ => rfl)) pa_nil))))))) pss_nil)
      (pss_cons (ps_if (pt_cmpR op_eq (pv 1) pe_str (nomark _)) (pss_one (ps_ret (pe_tupS (pa_cons pe_str (pa_cons (pe_ix ix_tup (pv 0) pe_int (fun _ _ => rfl)) pa_nil))))) pss_nil)
      (pss_cons (ps_if (pt_cmpR op_eq (pv 1) pe_str (nomark _)) (pss_one (ps_ret (pe_tupS (pa_cons pe_str (pa_cons (pe_ix ix_tup (pv 0) pe_int (fun _ _ => rfl)) (pa_cons (pe_ix ix_tup (pv 0) pe_int (fun _ _ => rfl)) pa_nil)))))) pss_nil)
      (pss_one (ps_ret (pe_tupS (pa_cons (pv 1) (pa_cons (pe_ix ix_tup (pv 0) pe_int (fun _ _ => rfl)) (pa_cons (pe_ix ix_tup (pv 0) pe_int (fun _ _ => rfl)) (pa_cons (pe_ix ix_tup (pv 0) pe_int (fun _ _ => rfl)) pa_nil))))))))))), ?_⟩
    walk_at "rd"
    have z9 : (10 : Nat) ≤ sizeLine := by rw [sizeLine_eq]; omega
    cases d with
    | say n who text =>
      refine ⟨p, _, 0, .str "say", rfl, rfl, hp, rfl, rfl, ?_⟩
      rw [dq1]
      exact iteT ⟨p, _, 2, _, rfl, rfl, hp, rfl, p, _, 1, _, rfl, rfl, hp, rfl, p, _, 3, _, rfl, rfl, hp, rfl, by omega, fun q1 H1 n1 s1 e1 => q q1 H1 n1 s1 (.inl (.inl e1))⟩
    | tick k who =>
      refine ⟨p, _, 0, .str "tick", rfl, rfl, hp, rfl, rfl, ?_⟩
      rw [dq (show "tick" ≠ "say" by decide)]
      refine iteF ⟨rfl, ?_⟩
      rw [dq1]
      exact iteT ⟨p, _, 1, _, rfl, rfl, hp, rfl, by omega, fun q1 H1 n1 s1 e1 => q q1 H1 n1 s1 (.inl (.inl e1))⟩
    | strike n who =>
      refine ⟨p, _, 0, .str "strike", rfl, rfl, hp, rfl, rfl, ?_⟩
      rw [dq (show "strike" ≠ "say" by decide)]
      refine iteF ⟨rfl, ?_⟩
      rw [dq (show "strike" ≠ "tick" by decide)]
      refine iteF ⟨rfl, ?_⟩
      rw [dq1]
      exact iteT ⟨p, _, 1, _, rfl, rfl, hp, rfl, p, _, 2, _, rfl, rfl, hp, rfl, by omega, fun q1 H1 n1 s1 e1 => q q1 H1 n1 s1 (.inl (.inl e1))⟩
    | change n who text =>
      refine ⟨p, _, 0, .str "change", rfl, rfl, hp, rfl, rfl, ?_⟩
      rw [dq (show "change" ≠ "say" by decide)]
      refine iteF ⟨rfl, ?_⟩
      rw [dq (show "change" ≠ "tick" by decide)]
      refine iteF ⟨rfl, ?_⟩
      rw [dq (show "change" ≠ "strike" by decide)]
      exact iteF ⟨p, _, 1, _, rfl, rfl, hp, rfl, p, _, 2, _, rfl, rfl, hp, rfl, p, _, 3, _, rfl, rfl, hp, rfl, by omega, fun q1 H1 n1 s1 e1 => q q1 H1 n1 s1 (.inl (.inl e1))⟩
    | vote n who way =>
      refine ⟨p, _, 0, .str "vote", rfl, rfl, hp, rfl, rfl, ?_⟩
      rw [dq (show "vote" ≠ "say" by decide)]
      refine iteF ⟨rfl, ?_⟩
      rw [dq (show "vote" ≠ "tick" by decide)]
      refine iteF ⟨rfl, ?_⟩
      rw [dq (show "vote" ≠ "strike" by decide)]
      exact iteF ⟨p, _, 1, _, rfl, rfl, hp, rfl, p, _, 2, _, rfl, rfl, hp, rfl, p, _, 3, _, rfl, rfl, hp, rfl, by omega, fun q1 H1 n1 s1 e1 => q q1 H1 n1 s1 (.inl (.inl e1))⟩
end
/-! ### a ledger and the law's own wood, apart, both new since H0 -/
theorem LgAt.keep {K : PySem.W.Frag} {H H' : Hp} {G : GLay} (r : LgAt K H G) (k : ∀ b ∈ footG G, ∀ o, H b = some o → H' b = some o) (t : ∀ a xs, SqT K H a xs → SqT K H' a xs) : LgAt K H' G := by
  have lk : ∀ {p ds}, p ∈ footG G → LogAt K H p ds → LogAt K H' p ds := fun {p ds} hp h => by
    obtain ⟨qs, h1, h2⟩ := h
    exact ⟨qs, k _ hp _ h1, Paired.imp (fun q d e => t _ _ e) h2⟩
  exact ⟨k _ List.mem_cons_self _ r.top, lk (List.mem_cons_of_mem _ List.mem_cons_self) r.dd, lk (List.mem_cons_of_mem _ (List.mem_cons_of_mem _ List.mem_cons_self)) r.tt, r.ne, r.wd.wkF fun b o hb e => k b (List.mem_cons_of_mem _ (List.mem_cons_of_mem _ (List.mem_cons_of_mem _ hb))) o e, r.pL, r.ok, r.pl, r.pt, r.sz⟩
theorem LgAt.live {K : PySem.W.Frag} {H : Hp} {G : GLay} (r : LgAt K H G) {b : Addr} (hb : b ∈ footG G) : ∃ o, H b = some o ∧ (IsP o ∨ ∃ xs, o = .lst xs) := by
  cases hb with
  | head => exact ⟨_, r.top, .inl (.inl ⟨_, _, _, rfl⟩)⟩
  | tail _ hb =>
    cases hb with
    | head =>
      obtain ⟨qs, h1, _⟩ := r.dd
      exact ⟨_, h1, .inr ⟨_, rfl⟩⟩
    | tail _ hb =>
      cases hb with
      | head =>
        obtain ⟨qs, h1, _⟩ := r.tt
        exact ⟨_, h1, .inr ⟨_, rfl⟩⟩
      | tail _ hb =>
        obtain ⟨o, h1, h2⟩ := foot_live r.wd hb
        exact ⟨o, h1, .inl h2⟩
theorem LgAt.off {K : PySem.W.Frag} {H : Hp} {G : GLay} (r : LgAt K H G) {b : Addr} {o : HO} (h : H b = some o) (n : ¬ IsP o) (m : ∀ xs, o ≠ .lst xs) : b ∉ footG G := fun c => by
  obtain ⟨o', h1, h2⟩ := r.live c
  rw [h] at h1
  cases h1
  rcases h2 with h2 | ⟨xs, h2⟩
  · exact n h2
  · exact m xs h2
theorem sqt_keep {K : PySem.W.Frag} {H H' : Hp} {a : Addr} {xs : List V} (h : SqT K H a xs) (k : ∀ o, H a = some o → ¬ IsP o → (∀ t, o ≠ .tbl t) → (∀ ys, o ≠ .lst ys) → H' a = some o) : SqT K H' a xs := by
  rcases h with (h | ⟨o, h⟩) | h
  · exact .inl (.inl (k _ h (not_tup _) (by intro t z; cases z) (by intro t z; cases z)))
  · exact .inl (.inr ⟨o, k _ h (not_frz _ _) (by intro t z; cases z) (by intro t z; cases z)⟩)
  · exact .inr h
theorem LgAt.ext {K : PySem.W.Frag} {H H' : Hp} {G : GLay} (r : LgAt K H G) (x : LamX.ExtN H H') : LgAt K H' G := r.keep (fun b hb o e => x b o e fun ps z => by
  obtain ⟨o', h1, h2⟩ := r.live hb
  rw [e] at h1
  cases h1
  rw [z] at h2
  rcases h2 with h2 | ⟨xs, h2⟩
  · exact not_tbl _ h2
  · cases h2) fun a xs h => (LK.ext x).sqt h
structure LP (K : PySem.W.Frag) (H0 H : Hp) (G : GLay) (O : OLay) : Prop where
  lg : LgAt K H G
  B : OwnAt H O
  ap : ∀ b ∈ footG G, b ∉ footO O
  x : LamX.ExtN H0 H
  new : ∀ b, b ∈ footG G ∨ b ∈ footO O → ∀ o, H0 b = some o → ∃ ps, o = .tbl ps
  T : LamX.Tabs (tabs K) H
theorem LP.ext {K : PySem.W.Frag} {H0 H H' : Hp} {G : GLay} {O : OLay} (P : LP K H0 H G O) (x : LamX.ExtN H H') (T : LamX.Tabs (tabs K) H') : LP K H0 H' G O :=
  ⟨P.lg.ext x, P.B.wk (fun b o hb e => x b o e fun ps z => by
    obtain ⟨k, hk⟩ := footO_obj P.B hb
    rw [e, z] at hk
    cases hk), P.ap, P.x.trans x, P.new, T⟩
theorem LP.same {K : PySem.W.Frag} {H0 H H' : Hp} {G : GLay} {O : OLay} (P : LP K H0 H G O) (s : Same H H') : LP K H0 H' G O := P.ext (LamX.ExtN.of s) (P.T.ext s)
theorem LP.step {K : PySem.W.Frag} {H0 H H' : Hp} {G G' : GLay} {O : OLay} (P : LP K H0 H G O) (S : GStep H G H' G') (r : LgAt K H' G') : LP K H0 H' G' O := by
  refine ⟨r, P.B.wk fun b o hb e => S.keep b o (fun c => P.ap b c hb) e, fun b hb hO => ?_, fun b o e n => S.keep b o (fun c => ?_) (P.x b o e n), fun b hb o e => ?_, fun p hp => ?_⟩
  · rcases S.new b hb with z | z
    · exact P.ap b z hO
    · obtain ⟨k, hk⟩ := footO_obj P.B hO
      rw [z] at hk
      cases hk
  · obtain ⟨ps, hps⟩ := P.new b (.inl c) o e
    exact n ps hps
  · rcases hb with hb | hb
    · rcases S.new b hb with z | z
      · exact P.new b (.inl z) o e
      · by_cases c : ∃ ps, o = .tbl ps
        · exact c
        · have := P.x b o e fun ps q => c ⟨ps, q⟩
          rw [z] at this
          cases this
    · exact P.new b (.inr hb) o e
  · obtain ⟨ps, h1, h2, h3⟩ := P.T p hp
    refine ⟨ps, S.keep _ _ (P.lg.off h1 (not_tbl _) (by intro xs z; cases z)) h1, h2, fun pos cv hc => ?_⟩
    obtain ⟨c, e1, e2⟩ := h3 pos cv hc
    exact ⟨c, e1, S.keep _ _ (P.lg.off e2 (not_code _ _) (by intro xs z; cases z)) e2⟩
theorem LP.ostep {K : PySem.W.Frag} {H0 H H' : Hp} {G : GLay} {O O' : OLay} (P : LP K H0 H G O) (S : OStep H O H' O') (B : OwnAt H' O') : LP K H0 H' G O' := by
  have off : ∀ {b o}, H b = some o → (∀ k, o ≠ .dK k) → b ∉ footO O := fun {b o} h n c => by
    obtain ⟨k, hk⟩ := footO_obj P.B c
    rw [h] at hk
    cases hk
    exact n k rfl
  refine ⟨P.lg.keep (fun b hb o e => S.keep b o (P.ap b hb) e) (fun a xs h => sqt_keep h fun o e n _ _ => S.keep a o (off e fun k z => n (.inr ⟨k, z⟩)) e), B, fun b hb hO => ?_, fun b o e n => S.keep b o (fun c => ?_) (P.x b o e n), fun b hb o e => ?_, fun p hp => ?_⟩
  · rcases S.new b hO with z | z
    · exact P.ap b hb z
    · obtain ⟨o, ho, _⟩ := P.lg.live hb
      rw [z] at ho
      cases ho
  · obtain ⟨ps, hps⟩ := P.new b (.inr c) o e
    exact n ps hps
  · rcases hb with hb | hb
    · exact P.new b (.inl hb) o e
    · rcases S.new b hb with z | z
      · exact P.new b (.inr z) o e
      · by_cases c : ∃ ps, o = .tbl ps
        · exact c
        · have := P.x b o e fun ps q => c ⟨ps, q⟩
          rw [z] at this
          cases this
  · obtain ⟨ps, h1, h2, h3⟩ := P.T p hp
    refine ⟨ps, S.keep _ _ (off h1 (by intro xs z; cases z)) h1, h2, fun pos cv hc => ?_⟩
    obtain ⟨c, e1, e2⟩ := h3 pos cv hc
    exact ⟨c, e1, S.keep _ _ (off e2 (by intro xs z; cases z)) e2⟩
section
variable {K : PySem.W.Frag} {H0 H : Hp} {G : GLay} {O : OLay} {Q : VK} {E : XK} {d : Deed} {p : Addr} {m : Nat}
theorem use_actG (P : LP K H0 H G O) (f : Fine O.wd m) (hm : m ≤ 9000) (ok : DeedOk d) (hp : SqT K H p d.tup)
    (k : ∀ v H' O', LP K H0 H' G O' → O'.p = O.p → O'.wd = actW O.wd d → SqT K H' p d.tup → Q v H') : spAct K [.ref O.p, .ref p] H Q E := by
  refine ⟨O, p, d, rfl, hp, P.B, f.G, ok, f.vo, f.entsO hm, fun v M h H' O' B' e' S => k v H' O' (P.ostep S B') S.p ?_ (sqt_keep hp fun o e n _ _ => S.keep p o (fun c => ?_) e), fun e h r H' n s hr => k _ H' O (P.same s) rfl ?_ (Same.tup s hp)⟩
  · rw [e']
    unfold actW
    rw [h]
  · obtain ⟨k, hk⟩ := footO_obj P.B c
    rw [e] at hk
    cases hk
    exact n (.inr ⟨_, rfl⟩)
  · unfold actW
    rw [h]
end
end Vw
namespace Vw
open PySem PySem.Spec PyProof.Rows L2
local macro_rules | `(tactic| walk_at "rd") => `(tactic| simp only [tSeq, tNext, tIfS, tAsg, tRet, tRetN, tDrop, tVar, tC, tOp, tUn, tTest, tB, tAnd, tOr, tNot, tAndV, tOrV, tNotV, tIf, tChain, tCB, tCons, tNil, tCall, tMeth, tMake, tFld, sFld, tTup, tLst, tTupS, tLstS, tDNewKS, tDNewTS, tTold, tCmp, t2I, tIsN, tNotN, tPar, gName, gNil, gCons, gTup, gSub, rI0, rU, rEq, rNe, tDGet, tDIn, tDNotIn, sDPut, tDNewK, tDGet1, tDGet2, tDPop1, tDPop2, tBM, tBM0, tM0, tM1, tSl, tPart, tNoPart, tBreak, tCont, tThru, L2.start, List.map_cons, List.map_nil, List.length_cons, List.length_nil, List.cons_append, List.nil_append, List.append_nil, List.replicate_succ, List.replicate_zero, Nat.reduceAdd, Nat.reduceSub, Nat.zero_add, List.getElem?_cons_zero, List.getElem?_cons_succ, List.set_cons_zero, List.set_cons_succ, wipe, cxOf_K, tYes, List.cons.injEq, and_self, Option.some.injEq, V.int.injEq, V.bl.injEq, V.ref.injEq, V.str.injEq, exists_eq_left', exists_eq_left, exists_and_left, and_assoc, true_and, and_true, if_true, if_false, ite_true, ite_false, Bool.not_true, Bool.not_false, Bool.false_eq_true, reduceIte])
theorem forM {K : PySem.W.Frag} {te0 : TE} {g : TG} {tb : TS} {D : Ends} {σ : L2.St} {H : Hp} (Mid : Addr → Hp → List V → Prop) (src : ∀ R : VK, (∀ p H1 xs, SqL K H1 p xs → Mid p H1 xs → R (.ref p) H1) → te0 σ H R)
    (Pv : List V → Addr → Nat → L2.St → Hp → Prop) (h0 : ∀ p H1 xs, SqL K H1 p xs → Mid p H1 xs → Pv xs p 0 σ H1) (hG : ∀ xs p i σ' H', i ≤ xs.length → Pv xs p i σ' H' → SqL K H' p xs)
    (hs : ∀ xs p i a σ' H' (D' : Ends), xs[i]? = some a → Pv xs p i σ' H' → (∀ σ2 H2, Pv xs p (i + 1) σ2 H2 → D'.nx σ2 H2) → (∀ σ2 H2, Pv xs p (i + 1) σ2 H2 → D'.ct σ2 H2) → D'.rt = D.rt → D'.bk = D.nx → g a σ' H' fun σ2 H2 => tb D' σ2 H2)
    (hd : ∀ xs p σ' H', Pv xs p xs.length σ' H' → D.nx σ' H') : tFor (iList K te0) g tb D σ H := by
  refine src _ fun p H1 xs e1 m1 => ⟨p, rfl, ⟨_, e1⟩, ?_⟩
  have w : Walk (Itl K p) xs.length (fun H => SqL K H p xs) (YAt xs) := walk_list (K := K) (a := p) (xs := xs)
  refine for_it w (Pv xs p) (h0 p H1 xs e1 m1) (hG xs p) (fun i x σ' H2 H3 hi p1 y => ?_) (hd xs p)
  obtain ⟨rfl, hx⟩ := y
  exact hs xs p i x σ' _ _ hx p1 (fun _ _ h => h) (fun _ _ h => h) rfl rfl
def Deed.ldat (d : Deed) : PyData := .tuple d.led.dats
theorem dp_log {K : PySem.W.Frag} {H : Hp} : ∀ {qs : List Addr} {ds : List Deed}, Paired (fun q d => SqT K H q (Deed.ltup d)) qs ds → DpAll K H (qs.map V.ref) (ds.map Deed.ldat)
  | _, _, .nil => .nil
  | _, _, .cons h t => .cons (.tup h (led_dats _)) (dp_log t)
theorem lay_ldat {d : Deed} (ok : DeedOk d) : PyData.canLay0 d.ldat = true ∧ PyData.depth d.ldat ≤ 2 := by
  have h1 : PyData.strOk "say" = true := by decide +kernel
  have h2 : PyData.strOk "tick" = true := by decide +kernel
  have h3 : PyData.strOk "change" = true := by decide +kernel
  have h4 : PyData.strOk "strike" = true := by decide +kernel
  have h5 : PyData.strOk "vote" = true := by decide +kernel
  cases d with
  | say n who text =>
    have := ok.who (.inl rfl)
    simp [Deed.ldat, Deed.led, LDeed.dats, PyData.canLay0, PyData.canLayAll0, PyData.depth, PyData.depthAll, h1, str_name this.1, str_text this.2]
  | tick k who => simp [Deed.ldat, Deed.led, LDeed.dats, PyData.canLay0, PyData.canLayAll0, PyData.depth, PyData.depthAll, h2]
  | change n who text =>
    have := ok.who (.inr rfl)
    simp [Deed.ldat, Deed.led, LDeed.dats, PyData.canLay0, PyData.canLayAll0, PyData.depth, PyData.depthAll, h3, str_name this.1, str_text this.2]
  | strike n who =>
    have := ok.strike rfl
    simp [Deed.ldat, Deed.led, LDeed.dats, PyData.canLay0, PyData.canLayAll0, PyData.depth, PyData.depthAll, h4, str_name this]
  | vote n who way =>
    have := ok.vote rfl
    simp [Deed.ldat, Deed.led, LDeed.dats, PyData.canLay0, PyData.canLayAll0, PyData.depth, PyData.depthAll, h5, str_name this.1]
theorem shaped_log {ds : List Deed} (ok : ∀ d ∈ ds, DeedOk d) : SeqAt.shaped (.list (ds.map Deed.ldat)) = true := by
  have a : ∀ ds : List Deed, (∀ d ∈ ds, DeedOk d) → PyData.canLayAll0 (ds.map Deed.ldat) = true ∧ PyData.depthAll (ds.map Deed.ldat) ≤ 2 := by
    intro ds
    induction ds with
    | nil => intro _; exact ⟨rfl, by decide⟩
    | cons d t ih =>
      intro ok
      have h1 := lay_ldat (ok d List.mem_cons_self)
      have h2 := ih fun x hx => ok x (List.mem_cons_of_mem _ hx)
      simp only [List.map_cons, PyData.canLayAll0, PyData.depthAll, h1.1, h2.1]
      exact ⟨rfl, Nat.max_le.mpr ⟨h1.2, h2.2⟩⟩
  have h := a ds ok
  simp only [SeqAt.shaped, PyData.canLay0, PyData.depth, h.1]
  simp
  omega
theorem eqv_log : ∀ ds : List Deed, PyData.eqvAll (ds.map Deed.ldat) (ds.map Deed.ldat) = true
  | [] => rfl
  | d :: t => by
    have h := eqv_log t
    have h1 : PyData.eqv d.ldat d.ldat = true := by
      cases d <;> simp [Deed.ldat, Deed.led, LDeed.dats, PyData.eqv, PyData.eqvAll]
    simp only [List.map_cons, PyData.eqvAll, h1, h, Bool.and_self]
theorem atI_last (l : List V) (x : V) : atI (l ++ [x]) (-1) = some x := by
  unfold atI ixN
  rw [if_neg (by decide), if_pos (by rw [List.length_append, List.length_singleton]; omega)]
  rw [show ((-1 : Int) + ((l ++ [x]).length : Int)).toNat = l.length by rw [List.length_append, List.length_singleton]; omega]
  simp
theorem Paired.snoc {α β : Type} {F : α → β → Prop} : ∀ {l : List α} {m : List β} {b : β}, Paired F l (m ++ [b]) → ∃ l' a, l = l' ++ [a] ∧ Paired F l' m ∧ F a b
  | _, [], _, .cons f .nil => ⟨[], _, rfl, .nil, f⟩
  | _, _ :: t, _, .cons f r => by
    obtain ⟨l', a, e, h1, h2⟩ := Paired.snoc (m := t) r
    exact ⟨_ :: l', a, by rw [e]; rfl, .cons f h1, h2⟩
theorem eqv_nil {ds : List Deed} : PyData.eqv (.list (ds.map Deed.ldat)) (.list []) = decide (ds = []) := by
  cases ds with
  | nil => rfl
  | cons d t => simp [PyData.eqv, PyData.eqvAll]
theorem snoc_cases {α : Type} (l : List α) : l = [] ∨ ∃ m a, l = m ++ [a] := by
  cases h : l.reverse with
  | nil => exact .inl (by simpa using h)
  | cons a m => exact .inr ⟨m.reverse, a, by rw [← List.reverse_reverse l, h, List.reverse_cons]⟩
theorem last_get {α : Type} (l : List α) (a : α) : (l ++ [a])[(l ++ [a]).length - 1]? = some a := by simp
theorem plays_last {M M1 : Wd} {ds : List Deed} {d : Deed} (h : plays M (ds ++ [d]) = some M1) : ∃ M0 v, plays M ds = some M0 ∧ actM M0 d = .ok (v, M1) := by
  rw [plays_app] at h
  cases e : plays M ds with
  | none => rw [e] at h; cases h
  | some M0 =>
    rw [e] at h
    simp only [Option.bind, plays] at h
    cases q : actM M0 d with
    | error e => rw [q] at h; cases h
    | ok p =>
      rw [q] at h
      cases h
      exact ⟨M0, p.1, rfl, q⟩
section
variable {P : Program} {w : World} {K : PySem.W.Frag} {mg : Str → Option Value} {base : Heap}
def spLUndo (K : PySem.W.Frag) : Sp := fun vs H Q E => ∃ G : GLay, vs = [.ref G.p] ∧ LgAt K H G ∧
  (∀ ds d, G.ds = ds ++ [d] → ∀ G' H' q, G'.ds = ds → G'.ts = G.ts ++ [d] → LgAt K H' G' → GStep H G H' G' → SqT K H' q d.ltup → Q (.ref q) H') ∧
  (G.ds = [] → ∀ H', Same H H' → Bad K E .nothing H')
def spLRedo (K : PySem.W.Frag) : Sp := fun vs H Q E => ∃ G : GLay, vs = [.ref G.p] ∧ LgAt K H G ∧
  (∀ ts d, G.ts = ts ++ [d] → ∀ G' H' q, G'.ds = G.ds ++ [d] → G'.ts = ts → LgAt K H' G' → GStep H G H' G' → SqT K H' q d.ltup → Q (.ref q) H') ∧
  (G.ts = [] → ∀ H', Same H H' → Bad K E .nothing H')
end
end Vw
namespace Vw
open PySem PySem.Spec PyProof.Rows L2
/-! ### a wood that comes of another one: plain law -/
def likeR (a b : Row) : Bool := decide (a.who = b.who) && decide (a.under = b.under) && decide (a.time = b.time) && (b.struck || !a.struck)
theorem like_iff {a b : Row} : likeR a b = true ↔ a.who = b.who ∧ a.under = b.under ∧ a.time = b.time ∧ (a.struck = true → b.struck = true) := by
  unfold likeR
  cases a.struck <;> cases b.struck <;> simp [and_assoc]
/-- one row of a wood, seen from the base -/
def rowOf (B : Wd) (p : Int × Row) : Bool := if p.1 > B.came then decide (B.clock ≤ p.2.time) else match findR B.rows p.1 with
  | none => false
  | some r => likeR r p.2
structure ComesOf (B M : Wd) : Prop where
  k : B.clock ≤ M.clock
  c : B.came ≤ M.came
  r : ∀ p ∈ M.rows, rowOf B p = true
theorem rowOf_like {B : Wd} {n : Int} {r r' : Row} (h : rowOf B (n, r) = true) (l : likeR r r' = true) : rowOf B (n, r') = true := by
  obtain ⟨h1, h2, h3, h4⟩ := like_iff.mp l
  unfold rowOf at h ⊢
  dsimp only at h ⊢
  split at h
  · rename_i c
    rw [if_pos c, ← h3]
    exact h
  · rename_i c
    rw [if_neg c]
    cases q : findR B.rows n with
    | none => rw [q] at h; cases h
    | some r0 =>
      rw [q] at h
      obtain ⟨g1, g2, g3, g4⟩ := like_iff.mp h
      exact like_iff.mpr ⟨g1.trans h1, g2.trans h2, g3.trans h3, fun z => h4 (g4 z)⟩
theorem like_refl (r : Row) : likeR r r = true := like_iff.mpr ⟨rfl, rfl, rfl, id⟩
theorem ComesOf.refl {M : Wd} (G : Good M) : ComesOf M M := by
  refine ⟨Int.le_refl _, Int.le_refl _, fun p hp => ?_⟩
  unfold rowOf
  have := G.le p hp
  rw [if_neg (by omega), findR_of G.wf.nk (show (p.1, p.2) ∈ M.rows from hp)]
  exact like_refl _
theorem ComesOf.set {B M : Wd} (h : ComesOf B M) {n : Int} {r r' : Row} (f : findR M.rows n = some r) (l : likeR r r' = true) : ComesOf B { M with rows := setR M.rows n r' } := by
  refine ⟨h.k, h.c, fun p hp => ?_⟩
  rcases mem_setR hp with ⟨rfl, _⟩ | ⟨hp, _⟩
  · exact rowOf_like (h.r _ (findR_mem f)) l
  · exact h.r p hp
theorem ComesOf.sub {B M : Wd} (h : ComesOf B M) {rs : Rows} (s : ∀ p ∈ rs, p ∈ M.rows) : ComesOf B { M with rows := rs } := ⟨h.k, h.c, fun p hp => h.r p (s p hp)⟩
theorem ComesOf.act {B M M' : Wd} (h : ComesOf B M) (G : Good M) {d : Deed} (ok : DeedOk d) {v : V} (e : actM M d = .ok (v, M')) : ComesOf B M' := by
  cases d with
  | tick k who =>
    cases e
    have := (ok.tick rfl).1
    exact ⟨by have := h.k; show B.clock ≤ M.clock + k; omega, h.c, h.r⟩
  | say n who text =>
    obtain ⟨⟨k, M1⟩, hs, e⟩ := ex_map e
    cases e
    have hs : sayM M (.str who) (.int n) (.str text) = .ok (k, M1) := hs
    unfold sayM at hs
    split at hs
    · cases hs
    · split at hs
      · cases hs
      · split at hs
        · cases hs
        · dsimp only at hs
          split at hs
          · cases hs
          · cases hs
            refine ⟨h.k, by have := h.c; show B.came ≤ M.came + 1; omega, fun p hp => ?_⟩
            rcases List.mem_append.mp hp with hp | hp
            · exact h.r p hp
            · cases List.mem_singleton.mp hp
              have := h.c
              unfold rowOf
              rw [if_pos (by show M.came + 1 > B.came; omega)]
              exact decide_eq_true h.k
  | change n who text =>
    obtain ⟨M1, hs, e⟩ := ex_map e
    have e : M1 = M' := by cases e; rfl
    subst e
    have hs : changeM M (.int n) (.str who) (.str text) = .ok M1 := hs
    unfold changeM at hs
    split at hs
    · cases hs
    · rename_i n' r ho
      obtain ⟨hf, _⟩ := own_ok ho
      have hs : (if textZ text = true then Except.ok { M with rows := setR M.rows n' { r with text := text } } else Except.error Er.text) = Except.ok M1 := hs
      split at hs
      · cases hs
        exact h.set hf (like_iff.mpr ⟨rfl, rfl, rfl, id⟩)
      · cases hs
  | strike n who =>
    obtain ⟨⟨k, M1⟩, hs, e⟩ := ex_map e
    cases e
    have hs : strikeM M (.int n) (.str who) = .ok (k, M1) := hs
    unfold strikeM at hs
    split at hs
    · cases hs
    · rename_i n' r ho
      obtain ⟨hf, _⟩ := own_ok ho
      cases hs
      have h1 := h.set (r' := { r with struck := true }) hf (like_iff.mpr ⟨rfl, rfl, rfl, fun _ => rfl⟩)
      exact h1.sub (M := { M with rows := setR M.rows n' { r with struck := true } }) (gone_sub n'.toNat (setR M.rows n' { r with struck := true }) n' (Nat.le_refl _))
  | vote n who way =>
    obtain ⟨⟨k, M1⟩, hs, e⟩ := ex_map e
    cases e
    have hs : voteM M (.int n) (.str who) (.int way) = .ok (k, M1) := hs
    unfold voteM at hs
    split at hs
    · cases hs
    · rename_i n' r ho
      have hf : findR M.rows n' = some r := by
        rw [sayingG G] at ho
        cases q : findR M.rows n with
        | none => rw [q] at ho; cases ho
        | some r' =>
          rw [q] at ho
          cases ho
          exact q
      split at hs
      · cases hs
      · split at hs
        · cases hs
        · dsimp only at hs
          split at hs
          · cases hs
          · cases hs
            exact h.set hf (like_iff.mpr ⟨rfl, rfl, rfl, id⟩)
theorem ComesOf.actW {B M : Wd} (h : ComesOf B M) (G : Good M) {d : Deed} (ok : DeedOk d) : ComesOf B (actW M d) := by
  unfold Vw.actW
  split
  · rename_i e
    exact h.act G ok e
  · exact h
theorem ComesOf.plays : ∀ {ds : List Deed} {B M M' : Wd} {m : Nat}, ComesOf B M → Fine M m → (∀ d ∈ ds, DeedOk d) → plays M ds = some M' → ComesOf B M'
  | [], B, M, M', m, h, _, _, e => by
    cases e
    exact h
  | d :: t, B, M, M', m, h, f, ok, e => by
    unfold Vw.plays at e
    cases q : actM M d with
    | error x => rw [q] at e; cases e
    | ok p =>
      rw [q] at e
      exact ComesOf.plays (h.act f.G (ok d List.mem_cons_self) (v := p.1) (M' := p.2) q) (f.act (ok d List.mem_cons_self) (v := p.1) (M' := p.2) q) (fun x hx => ok x (List.mem_cons_of_mem _ hx)) e
/-! ### the wood at a time -/
theorem act_clock {M M' : Wd} {d : Deed} (ok : DeedOk d) {v : V} (e : actM M d = .ok (v, M')) : M.clock ≤ M'.clock ∧ (∀ k who, d = .tick k who → M'.clock = M.clock + k) ∧ ((∀ k who, d ≠ .tick k who) → M'.clock = M.clock) := by
  cases d with
  | tick k who =>
    cases e
    have := (ok.tick rfl).1
    refine ⟨by show M.clock ≤ M.clock + k; omega, fun a b z => ?_, fun z => absurd rfl (z k who)⟩
    cases z
    rfl
  | say n who text =>
    obtain ⟨⟨k, M1⟩, hs, e⟩ := ex_map e
    cases e
    have hs : sayM M (.str who) (.int n) (.str text) = .ok (k, M1) := hs
    unfold sayM at hs
    split at hs
    · cases hs
    · split at hs
      · cases hs
      · split at hs
        · cases hs
        · dsimp only at hs
          split at hs
          · cases hs
          · cases hs
            exact ⟨Int.le_refl _, (fun _ _ z => by cases z), fun _ => rfl⟩
  | change n who text =>
    obtain ⟨M1, hs, e⟩ := ex_map e
    have e : M1 = M' := by cases e; rfl
    subst e
    have hs : changeM M (.int n) (.str who) (.str text) = .ok M1 := hs
    unfold changeM at hs
    split at hs
    · cases hs
    · rename_i n' r ho
      have hs : (if textZ text = true then Except.ok { M with rows := setR M.rows n' { r with text := text } } else Except.error Er.text) = Except.ok M1 := hs
      split at hs
      · cases hs
        exact ⟨Int.le_refl _, (fun _ _ z => by cases z), fun _ => rfl⟩
      · cases hs
  | strike n who =>
    obtain ⟨⟨k, M1⟩, hs, e⟩ := ex_map e
    cases e
    have hs : strikeM M (.int n) (.str who) = .ok (k, M1) := hs
    unfold strikeM at hs
    split at hs
    · cases hs
    · cases hs
      exact ⟨Int.le_refl _, (fun _ _ z => by cases z), fun _ => rfl⟩
  | vote n who way =>
    obtain ⟨⟨k, M1⟩, hs, e⟩ := ex_map e
    cases e
    have hs : voteM M (.int n) (.str who) (.int way) = .ok (k, M1) := hs
    unfold voteM at hs
    split at hs
    · cases hs
    · split at hs
      · cases hs
      · split at hs
        · cases hs
        · dsimp only at hs
          split at hs
          · cases hs
          · cases hs
            exact ⟨Int.le_refl _, (fun _ _ z => by cases z), fun _ => rfl⟩
theorem plays_cons {M M1 : Wd} {d : Deed} {r : List Deed} (h : plays M (d :: r) = some M1) : ∃ v, actM M d = .ok (v, actW M d) ∧ plays (actW M d) r = some M1 := by
  unfold plays at h
  unfold actW
  cases q : actM M d with
  | error x => rw [q] at h; cases h
  | ok p =>
    rw [q] at h
    exact ⟨p.1, rfl, h⟩
theorem stops_clock {M : Wd} {d : Deed} (ok : DeedOk d) {t : Int} {v : V} (e : actM M d = .ok (v, actW M d)) (hM : M.clock ≤ t) : stops M d t = decide (t < (actW M d).clock) := by
  obtain ⟨_, h2, h3⟩ := act_clock ok e
  cases d with
  | tick k who =>
    have := h2 k who rfl
    unfold stops
    dsimp only
    rw [this]
  | _ =>
    have := h3 (by intro k who z; cases z)
    unfold stops
    dsimp only
    rw [this]
    exact (decide_eq_false (by omega)).symm
theorem stops_clock2 {M : Wd} {d : Deed} (ok : DeedOk d) {t : Int} {v : V} (e : actM M d = .ok (v, actW M d)) (h : stops M d t = true) : t < (actW M d).clock := by
  obtain ⟨_, h2, h3⟩ := act_clock ok e
  cases d with
  | tick k who =>
    rw [h2 k who rfl]
    exact of_decide_eq_true h
  | _ => cases h
theorem plays_clock : ∀ {ds : List Deed} {M M1 : Wd}, (∀ d ∈ ds, DeedOk d) → plays M ds = some M1 → M.clock ≤ M1.clock
  | [], M, M1, _, h => by
    cases h
    exact Int.le_refl _
  | d :: r, M, M1, ok, h => by
    obtain ⟨v, h1, h2⟩ := plays_cons h
    have a := (act_clock (ok d List.mem_cons_self) h1).1
    have b := plays_clock (fun x hx => ok x (List.mem_cons_of_mem _ hx)) h2
    omega
theorem asOf_app : ∀ {ds : List Deed} {M M1 : Wd} (es : List Deed) (t : Int), (∀ d ∈ ds, DeedOk d) → M.clock ≤ t → plays M ds = some M1 → asOfM M (ds ++ es) t = if M1.clock ≤ t then asOfM M1 es t else asOfM M ds t
  | [], M, M1, es, t, _, ht, h => by
    cases h
    rw [if_pos ht]
    rfl
  | d :: r, M, M1, es, t, ok, ht, h => by
    obtain ⟨v, h1, h2⟩ := plays_cons h
    have ok1 := ok d List.mem_cons_self
    have ok2 : ∀ x ∈ r, DeedOk x := fun x hx => ok x (List.mem_cons_of_mem _ hx)
    show (if stops M d t = true then M else asOfM (actW M d) (r ++ es) t) = if M1.clock ≤ t then asOfM M1 es t else (if stops M d t = true then M else asOfM (actW M d) r t)
    cases q : stops M d t with
    | true =>
      have a := stops_clock2 ok1 h1 q
      have b := plays_clock ok2 h2
      rw [if_pos rfl, if_neg (by omega), if_pos rfl]
    | false =>
      have a := stops_clock ok1 h1 ht
      rw [q] at a
      have a : ¬ t < (actW M d).clock := of_decide_eq_false a.symm
      have ff : ¬ (false = true) := by decide
      rw [if_neg ff, show (if false = true then M else asOfM (actW M d) r t) = asOfM (actW M d) r t from if_neg ff]
      exact asOf_app es t ok2 (by omega) h2
theorem asOf_whole {ds : List Deed} {M M1 : Wd} {t : Int} (ok : ∀ d ∈ ds, DeedOk d) (h : plays M ds = some M1) (ht : M1.clock ≤ t) : asOfM M ds t = M1 := by
  have := asOf_app [] t ok (Int.le_trans (plays_clock ok h) ht) h
  rw [List.append_nil, if_pos ht] at this
  exact this
theorem asOf_clock : ∀ {ds : List Deed} {M M1 : Wd} {t : Int}, (∀ d ∈ ds, DeedOk d) → plays M ds = some M1 → M.clock ≤ t → (asOfM M ds t).clock ≤ t
  | [], M, M1, t, _, _, ht => ht
  | d :: r, M, M1, t, ok, h, ht => by
    obtain ⟨v, h1, h2⟩ := plays_cons h
    show (if stops M d t = true then M else asOfM (actW M d) r t).clock ≤ t
    cases q : stops M d t with
    | true =>
      rw [if_pos rfl]
      exact ht
    | false =>
      have a := stops_clock (ok d List.mem_cons_self) h1 ht
      rw [q] at a
      have a : ¬ t < (actW M d).clock := of_decide_eq_false a.symm
      rw [if_neg (by decide)]
      exact asOf_clock (fun x hx => ok x (List.mem_cons_of_mem _ hx)) h2 (by omega)
theorem asOf_fine : ∀ {ds : List Deed} {M M1 : Wd} {t : Int} {m : Nat}, Fine M m → (∀ d ∈ ds, DeedOk d) → plays M ds = some M1 → Fine (asOfM M ds t) (m + ds.length)
  | [], M, M1, t, m, f, _, _ => f
  | d :: r, M, M1, t, m, f, ok, h => by
    obtain ⟨v, h1, h2⟩ := plays_cons h
    show Fine (if stops M d t = true then M else asOfM (actW M d) r t) _
    rw [List.length_cons]
    split
    · exact f.mono (by omega)
    · exact (asOf_fine (f.act (ok d List.mem_cons_self) h1) (fun x hx => ok x (List.mem_cons_of_mem _ hx)) h2).mono (by omega)
theorem ComesOf.asOf : ∀ {ds : List Deed} {B M M1 : Wd} {t : Int} {m : Nat}, ComesOf B M → Fine M m → (∀ d ∈ ds, DeedOk d) → Vw.plays M ds = some M1 → ComesOf B (asOfM M ds t)
  | [], B, M, M1, t, m, h, f, _, _ => h
  | d :: r, B, M, M1, t, m, h, f, ok, e => by
    obtain ⟨v, h1, h2⟩ := plays_cons e
    show ComesOf B (if stops M d t = true then M else asOfM (Vw.actW M d) r t)
    split
    · exact h
    · exact ComesOf.asOf (h.act f.G (ok d List.mem_cons_self) h1) (f.act (ok d List.mem_cons_self) h1) (fun x hx => ok x (List.mem_cons_of_mem _ hx)) h2
theorem comes_times : ∀ {ds : List Deed} {M M1 : Wd} {t1 t2 : Int} {m : Nat}, t1 ≤ t2 → Fine M m → (∀ d ∈ ds, DeedOk d) → plays M ds = some M1 → M.clock ≤ t1 → ComesOf (asOfM M ds t1) (asOfM M ds t2)
  | [], M, M1, t1, t2, m, _, f, _, _, _ => ComesOf.refl f.G
  | d :: r, M, M1, t1, t2, m, ht, f, ok, e, h0 => by
    obtain ⟨v, h1, h2⟩ := plays_cons e
    have a1 := stops_clock (ok d List.mem_cons_self) h1 h0
    have a2 := stops_clock (ok d List.mem_cons_self) h1 (Int.le_trans h0 ht)
    show ComesOf (if stops M d t1 = true then M else asOfM (actW M d) r t1) (asOfM M (d :: r) t2)
    cases q : stops M d t1 with
    | true =>
      rw [if_pos rfl]
      exact (ComesOf.refl f.G).asOf f ok e
    | false =>
      rw [if_neg (by decide)]
      rw [q] at a1
      have a1 : ¬ t1 < (actW M d).clock := of_decide_eq_false a1.symm
      show ComesOf _ (if stops M d t2 = true then M else asOfM (actW M d) r t2)
      rw [if_neg (by rw [a2]; simp; omega)]
      exact comes_times ht (f.act (ok d List.mem_cons_self) h1) (fun x hx => ok x (List.mem_cons_of_mem _ hx)) h2 (by omega)
/-! ### stands: the last one at a time -/
structure Stands (S : List Wd) (ds : List Deed) (M : Wd) : Prop where
  pl : plays ⟨[], 0, 0⟩ ds = some M
  at_ : ∀ t : Int, 0 ≤ t → (S.filter fun N => decide (N.clock ≤ t)).getLast? = some (asOfM ⟨[], 0, 0⟩ ds t)
theorem stands0 : Stands [⟨[], 0, 0⟩] [] ⟨[], 0, 0⟩ := by
  refine ⟨rfl, fun t ht => ?_⟩
  rw [List.filter_cons, if_pos (by simpa using ht)]
  rfl
theorem Stands.bad {S : List Wd} {ds : List Deed} {M : Wd} (s : Stands S ds M) (ok : ∀ d ∈ ds, DeedOk d) : Stands (S ++ [M]) ds M := by
  refine ⟨s.pl, fun t ht => ?_⟩
  rw [List.filter_append, List.filter_cons]
  by_cases c : M.clock ≤ t
  · rw [if_pos (by simpa using c), asOf_whole ok s.pl c]
    simp
  · rw [if_neg (by simpa using c), List.filter_nil, List.append_nil]
    exact s.at_ t ht
theorem Stands.good {S : List Wd} {ds : List Deed} {M M' : Wd} {d : Deed} {v : V} (s : Stands S ds M) (ok : ∀ d ∈ ds, DeedOk d) (okd : DeedOk d) (e : actM M d = .ok (v, M')) : Stands (S ++ [M']) (ds ++ [d]) M' := by
  have pl := plays_snoc s.pl e
  have ok2 : ∀ x ∈ ds ++ [d], DeedOk x := fun x hx => by
    rcases List.mem_append.mp hx with hx | hx
    · exact ok x hx
    · cases List.mem_singleton.mp hx
      exact okd
  refine ⟨pl, fun t ht => ?_⟩
  rw [List.filter_append, List.filter_cons]
  by_cases c : M'.clock ≤ t
  · rw [if_pos (by simpa using c), asOf_whole ok2 pl c]
    simp
  · rw [if_neg (by simpa using c), List.filter_nil, List.append_nil, s.at_ t ht, asOf_app [d] t ok ht s.pl]
    by_cases c2 : M.clock ≤ t
    · rw [if_pos c2, asOf_whole ok s.pl c2]
      have ew : actW M d = M' := by unfold actW; rw [e]
      have h1 := stops_clock okd (t := t) (v := v) (by rw [ew]; exact e) c2
      rw [ew] at h1
      show some M = some (if stops M d t = true then M else _)
      rw [if_pos (by rw [h1]; simp; omega)]
    · rw [if_neg c2]
end Vw
namespace Vw
open PySem PySem.Spec PyProof.Rows L2
local macro_rules | `(tactic| walk_at "rd") => `(tactic| simp only [tSeq, tNext, tIfS, tAsg, tRet, tRetN, tDrop, tVar, tC, tOp, tUn, tTest, tB, tAnd, tOr, tNot, tAndV, tOrV, tNotV, tIf, tChain, tCB, tCons, tNil, tCall, tMeth, tMake, tFld, sFld, tTup, tLst, tTupS, tLstS, tDNewKS, tDNewTS, tTold, tCmp, t2I, tIsN, tNotN, tPar, gName, gNil, gCons, gTup, gSub, rI0, rU, rEq, rNe, tDGet, tDIn, tDNotIn, sDPut, tDNewK, tDGet1, tDGet2, tDPop1, tDPop2, tBM, tBM0, tM0, tM1, tSl, tPart, tNoPart, tBreak, tCont, tThru, L2.start, List.map_cons, List.map_nil, List.length_cons, List.length_nil, List.cons_append, List.nil_append, List.append_nil, List.replicate_succ, List.replicate_zero, Nat.reduceAdd, Nat.reduceSub, Nat.zero_add, List.getElem?_cons_zero, List.getElem?_cons_succ, List.set_cons_zero, List.set_cons_succ, wipe, cxOf_K, tYes, List.cons.injEq, and_self, Option.some.injEq, V.int.injEq, V.bl.injEq, V.ref.injEq, V.str.injEq, exists_eq_left', exists_eq_left, exists_and_left, and_assoc, true_and, and_true, if_true, if_false, ite_true, ite_false, Bool.not_true, Bool.not_false, Bool.false_eq_true, reduceIte])
def NamesW (M : Wd) : Prop := ∀ p ∈ M.rows, nameZ p.2.who = true
theorem Fine.nw {M : Wd} {m : Nat} (f : Fine M m) : NamesW M := fun p hp => (f.ro p hp).1
theorem use_notB {a b : Bool} {H : Hp} {Q : VK} (q : Q (.bl (!decide (a = b))) H) : rNotB (.bl a) (.bl b) H Q := ⟨a, b, rfl, rfl, q⟩
def keyD (r : Row) : PyData := .tuple [.str r.who, .int r.under, .int r.time]
theorem shaped_key {r : Row} (h : nameZ r.who = true) : SeqAt.shaped (keyD r) = true := by
  have h1 := str_name h
  simp [keyD, SeqAt.shaped, PyData.canLay0, PyData.canLayAll0, PyData.depth, PyData.depthAll, h1]
theorem eqv_key (a b : Row) : PyData.eqv (keyD a) (keyD b) = (decide (a.who = b.who) && decide (a.under = b.under) && decide (a.time = b.time)) := by
  simp [keyD, PyData.eqv, PyData.eqvAll, Bool.and_assoc]
  rfl
def comesB (B M : Wd) : Bool := !decide (M.clock < B.clock) && !decide (M.came < B.came) && M.rows.all (rowOf B)
theorem comesB_iff {B M : Wd} : comesB B M = true ↔ ComesOf B M := by
  unfold comesB
  simp only [Bool.and_eq_true, Bool.not_eq_true', decide_eq_false_iff_not, List.all_eq_true]
  constructor
  · rintro ⟨⟨h1, h2⟩, h3⟩
    exact ⟨by omega, by omega, h3⟩
  · intro h
    have := h.k
    have := h.c
    exact ⟨⟨by omega, by omega⟩, h.r⟩
section
variable {P : Program} {w : World} {K : PySem.W.Frag} {mg : Str → Option Value} {base : Heap}
theorem dp_key {H : Hp} {p : Addr} {r : Row} (h : H p = some (.tup [.str r.who, .int r.under, .int r.time])) : Dp K H (.ref p) (keyD r) := .tup (.inl (.inl h)) (.cons (.str _) (.cons (.int _) (.cons (.int _) .nil)))
def spIsLike (K : PySem.W.Frag) : Sp := fun vs H Q _ => ∃ (a x v a2 x2 v2 : Addr) (r r2 : Row), vs = [.ref a, .ref a2] ∧ SayAt K H a x v r ∧ SayAt K H a2 x2 v2 r2 ∧ nameZ r.who = true ∧ nameZ r2.who = true ∧ ∀ H', Same H H' → Q (.bl (likeR r r2)) H'
abbrev N_is_like : List Str := ["one", "other"]
theorem sc_is_like : FnScope N_is_like ["one", "other"] (defScope s_is_like) := ⟨rfl, rfl, rfl, by decide +kernel, rfl, by decide +kernel, by decide +kernel⟩
theorem be_is_like : BindEq "is_like" "is_like" s_is_like ["one", "other"] := fun _ _ _ _ _ _ us hl => match us, hl with | [_, _], _ => rfl
theorem D_is_like (T : Txt K mg base) : Def P w K mg base 1 (He.ga K "is_like") ["one", "other"] (spIsLike K) := by
  refine mk_def T.f_is_like sc_is_like be_is_like (fun vs H Q E h => ?_) (fun cdv A outer s H vs Q E hr h => ?_)
  · obtain ⟨a, x, v, a2, x2, v2, r, r2, rfl, _⟩ := h
    rfl
  · obtain ⟨a, x, v, a2, x2, v2, r, r2, rfl, S1, S2, ne, nf, k⟩ := h
    refine ⟨_, (pss_cons (ps_if (pt_ned (pe_tupS (pa_cons (pe_fld (pv 0) (by rfl)) (pa_cons (pe_fld (pv 0) (by rfl)) (pa_cons (pe_fld (pv 0) (by rfl)) pa_nil)))) (pe_tupS (pa_cons (pe_fld (pv 1) (by rfl)) (pa_cons (pe_fld (pv 1) (by rfl)) (pa_cons (pe_fld (pv 1) (by rfl)) pa_nil)))) (by exact hr.units)) (pss_one (ps_ret pe_bl)) pss_nil)
      (pss_one (ps_ret (pe_or (pe_fld (pv 1) (by rfl)) (pe_one (pe_not (pe_fld (pv 0) (by rfl)))))))), ?_⟩
    walk_at "rd"
    have z9 : (10 : Nat) ≤ sizeLine := by rw [sizeLine_eq]; omega
    refine S1.fby T (S1.funder T (S1.ftime T ⟨by omega, fun p1 H1 n1 s1 e1 => (S2.same s1).fby T ((S2.same s1).funder T ((S2.same s1).ftime T ⟨by omega, fun p2 H2 n2 s2 e2 => ?_⟩))⟩))
    refine use_neD (dp_key (s2 _ _ e1)) (dp_key e2) (shaped_key ne) (shaped_key nf) ⟨_, rfl, ?_⟩
    rw [eqv_key]
    have s12 := s1.trans s2
    have e : likeR r r2 = ((decide (r.who = r2.who) && decide (r.under = r2.under) && decide (r.time = r2.time)) && (r2.struck || !r.struck)) := rfl
    cases c : (decide (r.who = r2.who) && decide (r.under = r2.under) && decide (r.time = r2.time)) with
    | false =>
      have := k H2 s12
      rw [e, c] at this
      exact iteT this
    | true =>
      refine iteF ((S2.same s12).fstruck T ⟨_, rfl, ?_⟩)
      have kk := k H2 s12
      rw [e, c] at kk
      cases c2 : r2.struck with
      | true =>
        rw [c2] at kk
        exact iteT kk
      | false =>
        rw [c2] at kk
        exact iteF ((S1.same s12).fstruck T ⟨_, rfl, kk⟩)
def spComes (K : PySem.W.Frag) : Sp := fun vs H Q _ => ∃ (B L : Lay), vs = [.ref B.p, .ref L.p] ∧ WoodAt K H B ∧ WoodAt K H L ∧ Good L.wd ∧ NamesW B.wd ∧ NamesW L.wd ∧ ∀ H', Same H H' → Q (.bl (comesB B.wd L.wd)) H'
abbrev N_comes_of : List Str := ["base", "wood", "number", "one"]
theorem sc_comes_of : FnScope N_comes_of ["base", "wood"] (defScope s_comes_of) := ⟨rfl, rfl, rfl, by decide +kernel, rfl, by decide +kernel, by decide +kernel⟩
theorem be_comes_of : BindEq "comes_of" "comes_of" s_comes_of ["base", "wood"] := fun _ _ _ _ _ _ us hl => match us, hl with | [_, _], _ => rfl
theorem D_comes_of (T : Txt K mg base) : Def P w K mg base 2 (He.ga K "comes_of") ["base", "wood"] (spComes K) := by
  refine mk_def T.f_comes_of sc_comes_of be_comes_of (fun vs H Q E h => ?_) (fun cdv A outer s H vs Q E hr h => ?_)
  · obtain ⟨B, L, rfl, _⟩ := h
    rfl
  · obtain ⟨B, L, rfl, WB, W, G, nb, nl, k⟩ := h
    refine ⟨_, (pss_cons (ps_if (PW.pt (pw_or (pt_cmpR op_lt (pe_md0 (pv 1) T.c_Wood.c T.m_Wood_now (D_Wood_now T) (by exact hr.mono (by first | decide | omega)) passE) (pe_md0 (pv 0) T.c_Wood.c T.m_Wood_now (D_Wood_now T) (by exact hr.mono (by first | decide | omega)) passE) (nomark _)) (pw_or1 (pt_cmpR op_lt (pe_fld (pv 1) (by rfl)) (pe_fld (pv 0) (by rfl)) (nomark _))))) (pss_one (ps_ret pe_bl)) pss_nil)
      (pss_cons (ps_for ownE rfl (pi_list (pe_md0 (pv 1) T.c_Wood.c T.m_Wood_numbers (D_Wood_numbers T) (by exact hr.mono (by first | decide | omega)) passE)) (pg_name (i := 2) sc_comes_of.nd rfl (Or.inl rfl))
      (pss_cons (ps_set (i := 3) sc_comes_of.nd rfl (Or.inl rfl) (pe_dg (pe_fld (pv 1) (by rfl)) (pv 2) (by exact hu_of hr)))
      (pss_one (ps_if (pt_cmpR op_gt (pv 2) (pe_fld (pv 0) (by rfl)) (nomark _)) (pss_one (ps_if (pt_cmpR op_lt (pe_fld (pv 3) (by rfl)) (pe_md0 (pv 0) T.c_Wood.c T.m_Wood_now (D_Wood_now T) (by exact hr.mono (by first | decide | omega)) passE) (nomark _)) (pss_one (ps_ret pe_bl)) pss_nil)) (pss_one (ps_if (PW.pt (pw_or (pt_cmp (pc_dni (pv 2) (pe_fld (pv 0) (by rfl)) (by exact hu_of hr))) (pw_or1 (pt_not (pt_val (pe_cd (D_is_like T) (by exact hr.mono (by first | decide | omega)) T.g_is_like passE (pa_cons (pe_dg (pe_fld (pv 0) (by rfl)) (pv 2) (by exact hu_of hr)) (pa_cons (pv 3) pa_nil)))))))) (pss_one (ps_ret pe_bl)) pss_nil))))))
      (pss_one (ps_ret pe_bl)))), ?_⟩
    walk_at "rd"
    have nofw : ∀ {L : Lay} {m : String}, m ≠ "sayings" → m ≠ "came" → m ≠ "clock" → (woodFs L.d L.came L.clock).lookup (Str.ofString m) = none := fun h1 h2 h3 => fw_no _ _ _ h1 h2 h3
    have ec : comesB B.wd L.wd = (!decide (L.clock < B.clock) && !decide (L.came < B.came) && L.rows.all (rowOf B.wd)) := rfl
    refine ⟨_, _, W.top, nofw (by decide) (by decide) (by decide), L, rfl, W, _, _, WB.top, nofw (by decide) (by decide) (by decide), B, rfl, WB, _, rfl, _, rfl, ?_⟩
    by_cases c1 : L.clock < B.clock
    · rw [decide_eq_true c1]
      have := k H (Same.refl _)
      rw [ec, decide_eq_true c1] at this
      exact iteT this
    · rw [decide_eq_false c1]
      refine iteF (W.fcame T (WB.fcame T ⟨_, rfl, _, rfl, ?_⟩))
      by_cases c2 : L.came < B.came
      · rw [decide_eq_true c2]
        have := k H (Same.refl _)
        rw [ec, decide_eq_true c2, decide_eq_false c1] at this
        exact iteT this
      · rw [decide_eq_false c2]
        rw [decide_eq_false c1, decide_eq_false c2] at ec
        have ec : comesB B.wd L.wd = L.rows.all (rowOf B.wd) := by rw [ec]; rfl
        rw [ec] at k
        have mem : ∀ n ∈ sortI (L.rows.map (·.1)), ∃ e, findE L.ents n = some e ∧ e.n = n ∧ (n, e.row) ∈ L.rows := fun n hn => by
          obtain ⟨p, hp, rfl⟩ := List.mem_map.mp ((sortI_perm _).mem_iff.mp hn)
          obtain ⟨e, he, rfl⟩ := List.mem_map.mp hp
          exact ⟨e, findE_of W.nk he, rfl, hp⟩
        refine iteF (forL2 (l := sortI (L.rows.map (·.1))) V.int (fun R h => ?_) (fun p i σ' H' => SqL K H' p ((sortI (L.rows.map (·.1))).map V.int) ∧ Same H H' ∧ (∀ n ∈ (sortI (L.rows.map (·.1))).take i, ∀ r, (n, r) ∈ L.rows → rowOf B.wd (n, r) = true) ∧ ∃ x2 x3, σ' = [some (.ref B.p), some (.ref L.p), x2, x3])
          (fun p H1 s1 h1 => ⟨h1, s1, (by intro n hn; simp at hn), _, _, rfl⟩) (fun p i σ' H' _ h => h.1) (fun p i n σ' H1 D' hi h1 nx ct rt _ => ?_) (fun p σ' H1 h1 => ?_))
        · walk_at "rd"
          exact ⟨_, _, W.top, nofw (by decide) (by decide) (by decide), use_numbers W G fun p1 H1 n1 s1 e1 => h p1 H1 s1 (SqL.of e1)⟩
        · obtain ⟨hp1, s1, al, x2, x3, rfl⟩ := h1
          obtain ⟨e, fe, en, me⟩ := mem n (List.mem_of_getElem? hi)
          have W1 := W.same s1
          have B1 := WB.same s1
          have se := W1.say e (findE_mem fe).1
          have tk : (sortI (L.rows.map (·.1))).take (i + 1) = (sortI (L.rows.map (·.1))).take i ++ [n] := by rw [List.take_add_one, hi]; rfl
          have uni : ∀ r, (n, r) ∈ L.rows → r = e.row := fun r hr => by
            have h1 := findR_of G.wf.nk hr
            have h2 := findR_of G.wf.nk me
            rw [h1] at h2
            exact Option.some.inj h2
          have go : ∀ {H2 : Hp}, Same H1 H2 → rowOf B.wd (n, e.row) = true → D'.nx [some (.ref B.p), some (.ref L.p), some (.int n), some (.ref e.a)] H2 := fun {H2} s2 hr => nx _ _ ⟨s2.seq hp1, s1.trans s2, fun m hm r hr2 => by
            rw [tk] at hm
            rcases List.mem_append.mp hm with hm | hm
            · exact al m hm r hr2
            · cases List.mem_singleton.mp hm
              rw [uni r hr2]
              exact hr, _, _, rfl⟩
          have no : ∀ {H2 : Hp}, Same H1 H2 → rowOf B.wd (n, e.row) = false → D'.rt (.bl false) H2 := fun {H2} s2 hr => by
            have := k H2 (s1.trans s2)
            rw [List.all_eq_false.mpr ⟨_, me, by rw [hr]; decide⟩] at this
            rw [rt]
            exact this
          walk_at "rd"
          refine W1.fsay T (W1.at fe (B1.fcame T ⟨_, rfl, ?_⟩))
          by_cases c3 : n > B.came
          · rw [decide_eq_true c3]
            have er : rowOf B.wd (n, e.row) = decide (B.clock ≤ e.row.time) := if_pos c3
            refine iteT ⟨_, rfl, se.ftime T ⟨_, _, B1.top, nofw (by decide) (by decide) (by decide), B, rfl, B1, _, rfl, _, rfl, ?_⟩⟩
            by_cases c4 : e.row.time < B.clock
            · rw [decide_eq_true c4]
              exact iteT (no (Same.refl _) (by rw [er]; exact decide_eq_false (by omega)))
            · rw [decide_eq_false c4]
              exact iteF (go (Same.refl _) (by rw [er]; exact decide_eq_true (by omega)))
          · rw [decide_eq_false c3]
            refine iteF (B1.fsay T ⟨_, rfl, _, .inl ⟨_, Sum.inl n, .inl B1.dic, rfl, rfl⟩, ?_⟩)
            rw [valE]
            have fR : findR B.wd.rows n = (findE B.ents n).map (·.row) := B.find n
            cases q : findE B.ents n with
            | none =>
              refine iteT (no (Same.refl _) ?_)
              unfold rowOf
              dsimp only
              rw [if_neg (show ¬ n > B.wd.came from c3), fR, q]
              rfl
            | some f =>
              have sf := B1.say f (findE_mem q).1
              have nf : nameZ f.row.who = true := nb (f.n, f.row) (List.mem_map.mpr ⟨f, (findE_mem q).1, rfl⟩)
              have er : rowOf B.wd (n, e.row) = likeR f.row e.row := by
                unfold rowOf
                dsimp only
                rw [if_neg (show ¬ n > B.wd.came from c3), fR, q]
                rfl
              refine iteF (B1.fsay T (B1.at q ⟨_, _, _, _, _, _, _, _, rfl, sf, se, nf, nl _ me, fun H2 s2 => ⟨_, rfl, ?_⟩⟩))
              cases cl : likeR f.row e.row with
              | true => exact iteF (go s2 (by rw [er]; exact cl))
              | false => exact iteT (no s2 (by rw [er]; exact cl))
        · obtain ⟨hp1, s1, al, x2, x3, rfl⟩ := h1
          walk_at "rd"
          rw [List.take_of_length_le (Nat.le_refl _)] at al
          have := k H1 s1
          rw [List.all_eq_true.mpr fun p hp => al p.1 ((sortI_perm _).mem_iff.mpr (List.mem_map.mpr ⟨p, hp, rfl⟩)) p.2 hp] at this
          exact this
end
end Vw
namespace Vw
open PySem PySem.Spec PyProof.Rows L2
/-! ### comprehensions whose elements are anything new -/
/-- all but lists and what is locked stays -/
def NL (H H' : Hp) : Prop := ∀ b o, H b = some o → (∀ xs, o ≠ .lst xs) → (∀ od k, o ≠ .frz od (.dK k)) → H' b = some o
theorem NL.same {H H' : Hp} (s : Same H H') : NL H H' := fun b o e _ _ => s b o e
theorem NL.updL {H : Hp} {D : Addr} {acc : List V} {o : HO} (e : H D = some (.lst acc)) : NL H (upd H D o) := fun b u h n _ => by
  rw [upd_ne (fun z => by rw [z, e] at h; cases h; exact n _ rfl)]
  exact h
theorem NL.updF {H : Hp} {D : Addr} {od : Obj} {k : List (Key × V)} {o : HO} (e : H D = some (.frz od (.dK k))) : NL H (upd H D o) := fun b u h _ n => by
  rw [upd_ne (fun z => by rw [z, e] at h; cases h; exact n _ _ rfl)]
  exact h
theorem NL.sqt {K : PySem.W.Frag} {H H' : Hp} {a : Addr} {xs : List V} (n : NL H H') (h : SqT K H a xs) : SqT K H' a xs := by
  rcases h with (h | ⟨o, h⟩) | h
  · exact .inl (.inl (n _ _ h (by intro t z; cases z) (by intro t k z; cases z)))
  · exact .inl (.inr ⟨o, n _ _ h (by intro t z; cases z) (by intro t k z; cases z)⟩)
  · exact .inr h
theorem lc_roG {α : Type} {J : It} {G : Hp → Prop} {Y : Nat → Hp → V → Hp → Prop} (l : List α) (w : Walk J l.length G Y) (R : List α → List V → Hp → Prop) {g : TG} {tt : TT} {te : TE} {vs : List Nat} {σ : L2.St} {H1 : Hp} {D : Addr} {Qd : Hp → Prop}
    (hn : l.length < sizeLine) (hD : H1 D = none) (hG : ∀ H, Same H1 H → G H) (r0 : R [] [] H1) (rK : ∀ as us H H', NL H H' → R as us H → R as us H') (rL : ∀ as us H, R as us H → us.length ≤ as.length)
    (hs : ∀ i a x H H' as us, l[i]? = some a → as = l.take i → Same H1 H → R as us H → Y i H x H' → ∀ (N1 : V → Hp → Prop) (N0 : Hp → Prop), (∀ y H4, Same H H4 → R (as ++ [a]) (us ++ [y]) H4 → N1 y H4) → (∀ H3, Same H H3 → R (as ++ [a]) us H3 → N0 H3) →
      g x (wipe σ vs) H' fun σ2 H2 => wipe σ2 vs = wipe σ vs ∧ tt σ2 H2 fun b H3 => if b = true then te σ2 H3 N1 else N0 H3)
    (hd : ∀ H us, Same H1 H → H D = some (.lst us) → R l us H → Qd H) :
    ∃ W : Nat → Nat → Hp → Prop, (∃ m, W 0 m (upd H1 D (.lst []))) ∧ ∀ i m H, W i m H →
      (J.stop i H ∧ Qd H) ∨ (J.go i H ∧ ∃ Nx : Hp → Prop, (∀ H', Nx H' → ∃ m', m' < m ∧ W (i + 1) m' H') ∧ ∀ x H', J.yld i H x H' → g x (wipe σ vs) H' fun σ2 H2 => wipe σ2 vs = wipe σ vs ∧ tt σ2 H2 fun b H3 =>
        if b = true then te σ2 H3 fun y H4 => ∃ acc, H4 D = some (.lst acc) ∧ acc.length < sizeLine ∧ Nx (upd H4 D (.lst (acc ++ [y]))) else Nx H3) := by
  have new : ∀ {H : Hp} {o : HO}, Same H1 H → Same H1 (upd H D o) := fun {H o} s b u e => by
    rw [upd_ne (ne_of_none e hD)]
    exact s b u e
  refine lc_it w (fun i H => Same H1 H ∧ ∃ us : List V, H D = some (.lst us) ∧ R (l.take i) us H) ⟨new (Same.refl _), [], ?_, ?_⟩ (fun i H _ p => hG H p.1) (fun i x H H' hi p y => ?_) (fun H p => ?_)
  · rw [upd_same]
  · rw [List.take_zero]
    exact rK _ _ _ _ (NL.same (Same.new hD)) r0
  · obtain ⟨a, ha⟩ : ∃ a, l[i]? = some a := ⟨l[i], by simp [hi]⟩
    obtain ⟨s1, us, eD, tq⟩ := p
    have tk : l.take (i + 1) = l.take i ++ [a] := by rw [List.take_add_one, ha]; rfl
    refine hs i a x H H' _ us ha rfl s1 tq y _ _ (fun q H4 s4 r4 => ⟨_, s4 _ _ eD, ?_, new (s1.trans s4), us ++ [q], ?_, ?_⟩) (fun H3 s3 r3 => ⟨s1.trans s3, us, s3 _ _ eD, ?_⟩)
    · have h1 := rL _ _ _ tq
      have h2 : (l.take i).length ≤ l.length := by rw [List.length_take]; omega
      omega
    · rw [upd_same]
    · rw [tk]
      exact rK _ _ _ _ (NL.updL (s4 _ _ eD)) r4
    · rw [tk]
      exact r3
  · obtain ⟨s1, us, eD, tq⟩ := p
    rw [List.take_length] at tq
    exact hd H us s1 eD tq
section
variable {K : PySem.W.Frag} {te0 : TE} {g : TG} {tt : TT} {te : TE} {vs : List Nat} {σ : L2.St} {H : Hp} {Q : VK}
def TurnG {α : Type} (R : List α → List V → Hp → Prop) (as : List α) (us : List V) (g : TG) (tt : TT) (te : TE) (vs : List Nat) (σ : L2.St) (H : Hp) (a : α) (x : V) : Prop :=
  ∀ (N1 : V → Hp → Prop) (N0 : Hp → Prop), (∀ y H4, Same H H4 → R (as ++ [a]) (us ++ [y]) H4 → N1 y H4) → (∀ H3, Same H H3 → R (as ++ [a]) us H3 → N0 H3) →
    g x (wipe σ vs) H fun σ2 H2 => wipe σ2 vs = wipe σ vs ∧ tt σ2 H2 fun b H3 => if b = true then te σ2 H3 N1 else N0 H3
/-- over a dict's keys, under its lock -/
theorem lcKG {α : Type} {l : List α} {d : Addr} (kv : α → Key × V) (R : List α → List V → Hp → Prop) (hk : H d = some (.dK (l.map kv))) (src : ∀ (H' : Hp) (R : VK), (∀ b o, b ≠ d → H b = some o → H' b = some o) → R (.ref d) H' → te0 σ H' R) (hn : l.length < sizeLine)
    (r0 : ∀ H', (∀ b o, b ≠ d → H b = some o → H' b = some o) → R [] [] H') (rK : ∀ as us H H', NL H H' → R as us H → R as us H') (rL : ∀ as us H, R as us H → us.length ≤ as.length)
    (hs : ∀ a as us H' od, a ∈ l → (∃ i, as = l.take i ∧ l[i]? = some a) → (∀ b o, b ≠ d → H b = some o → H' b = some o) → H' d = some (.frz od (.dK (l.map kv))) → R as us H' → TurnG R as us g tt te vs σ H' a (kV (kv a).1))
    (hd : ∀ D H' us, H D = none → Same H H' → H' D = some (.lst us) → R l us H' → Q (.ref D) H') : tLockE (tLc (iKeys te0) g tt te vs) σ H Q := by
  refine ⟨d, _, hk, trivial, fun od => ?_⟩
  have un : ∀ H', Same (upd H d (.frz od (.dK (l.map kv)))) H' → ∀ b o, b ≠ d → H b = some o → H' b = some o := fun H' s b o hb e => s b o (by rw [upd_ne hb]; exact e)
  refine src _ _ (un _ (Same.refl _)) ⟨d, od, rfl, .inl ⟨_, upd_same, fun D hD => ?_⟩⟩
  have nD : D ≠ d := fun z => by
    rw [z, upd_same] at hD
    cases hD
  have w : Walk (Itk d od (l.map kv)) l.length (fun H => H d = some (.frz od (.dK (l.map kv)))) (fun i H x H' => H' = H ∧ ∃ k v, (l.map kv)[i]? = some (k, v) ∧ x = kV k) := by
    have w := walk_keys (d := d) (o := od) (kvs := l.map kv)
    rw [List.length_map] at w
    exact w
  refine lc_roG l w R hn hD (fun H' s => s _ _ upd_same) (r0 _ (un _ (Same.refl _))) rK rL (fun i a x H2 H3 as us ha has s2 r2 y => ?_) (fun H' us s2 e t => ⟨s2 _ _ upd_same, hd D _ us (by rw [upd_ne nD] at hD; exact hD) (Same.lock hk s2) (by rw [upd_ne nD]; exact e) (rK _ _ _ _ (NL.updF (s2 _ _ upd_same)) t)⟩)
  obtain ⟨rfl, k, v, hx, rfl⟩ := y
  have e : (k, v) = kv a := by
    rw [List.getElem?_map, ha] at hx
    exact (Option.some.inj hx).symm
  have e1 : k = (kv a).1 := congrArg Prod.fst e
  rw [e1]
  exact hs a as us _ od (List.mem_of_getElem? ha) ⟨i, has, ha⟩ (un _ s2) (s2 _ _ upd_same) r2
/-- over a list that is made, or stands -/
theorem lcLG {α : Type} {l : List α} (it : α → V) (R : List α → List V → Hp → Prop) (src : ∀ R : VK, (∀ p H1, Same H H1 → SqL K H1 p (l.map it) → R (.ref p) H1) → te0 σ H R) (hn : l.length < sizeLine)
    (r0 : ∀ H', Same H H' → R [] [] H') (rK : ∀ as us H H', NL H H' → R as us H → R as us H') (rL : ∀ as us H, R as us H → us.length ≤ as.length)
    (hs : ∀ a as us H', a ∈ l → (∃ i, as = l.take i ∧ l[i]? = some a) → Same H H' → R as us H' → TurnG R as us g tt te vs σ H' a (it a))
    (hd : ∀ D H' us, H D = none → Same H H' → H' D = some (.lst us) → R l us H' → Q (.ref D) H') : tLc (iList K te0) g tt te vs σ H Q := by
  refine src _ fun p H1 s1 hp => ⟨p, rfl, ⟨_, hp⟩, fun D hD => ?_⟩
  have w : Walk (Itl K p) l.length (fun H => SqL K H p (l.map it)) (YAt (l.map it)) := by
    have w := walk_list (K := K) (a := p) (xs := l.map it)
    rw [List.length_map] at w
    exact w
  refine lc_roG l w R hn hD (fun H' s => s.seq hp) (r0 _ s1) rK rL (fun i a x H2 H3 as us ha has s2 r2 y => ?_) (fun H' us s2 e t => hd D H' us (s1.free hD) (s1.trans s2) e t)
  obtain ⟨rfl, hx⟩ := y
  have e : x = it a := by
    rw [List.getElem?_map, ha] at hx
    exact (Option.some.inj hx).symm
  subst e
  exact hs a as us _ (List.mem_of_getElem? ha) ⟨i, has, ha⟩ (s1.trans s2) r2
end
end Vw
namespace Vw
open PySem PySem.Spec PyProof.Rows L2
local macro_rules | `(tactic| walk_at "rd") => `(tactic| simp only [tSeq, tNext, tIfS, tAsg, tRet, tRetN, tDrop, tVar, tC, tOp, tUn, tTest, tB, tAnd, tOr, tNot, tAndV, tOrV, tNotV, tIf, tChain, tCB, tCons, tNil, tCall, tMeth, tMake, tFld, sFld, tTup, tLst, tTupS, tLstS, tDNewKS, tDNewTS, tTold, tCmp, t2I, tIsN, tNotN, tPar, gName, gNil, gCons, gTup, gSub, rI0, rU, rEq, rNe, tDGet, tDIn, tDNotIn, sDPut, tDNewK, tDGet1, tDGet2, tDPop1, tDPop2, tBM, tBM0, tM0, tM1, tSl, tPart, tNoPart, tBreak, tCont, tThru, L2.start, List.map_cons, List.map_nil, List.length_cons, List.length_nil, List.cons_append, List.nil_append, List.append_nil, List.replicate_succ, List.replicate_zero, Nat.reduceAdd, Nat.reduceSub, Nat.zero_add, List.getElem?_cons_zero, List.getElem?_cons_succ, List.set_cons_zero, List.set_cons_succ, wipe, cxOf_K, tYes, List.cons.injEq, and_self, Option.some.injEq, V.int.injEq, V.bl.injEq, V.ref.injEq, V.str.injEq, exists_eq_left', exists_eq_left, exists_and_left, and_assoc, true_and, and_true, if_true, if_false, ite_true, ite_false, Bool.not_true, Bool.not_false, Bool.false_eq_true, reduceIte])
/-! ### a copy of the law's own wood -/
/-- copies of rows (with the old votes), in tuples with their numbers -/
structure Cop (H0 : Hp) (es : List OEnt) (us : List V) (H : Hp) : Prop where
  ex : ∃ (qs as : List Addr), us = qs.map V.ref ∧ qs.length = es.length ∧ as.length = es.length ∧ (∀ a ∈ as, H0 a = none) ∧ as.Nodup ∧
    Paired (fun q (p : OEnt × Addr) => H q = some (.tup [.int p.1.n, .ref p.2])) qs (es.zip as) ∧ (∀ p ∈ es.zip as, H p.2 = some (.dK (rowK p.1.row p.1.v)))
theorem zip_snoc {α β : Type} : ∀ {l : List α} {m : List β} (a : α) (b : β), l.length = m.length → (l ++ [a]).zip (m ++ [b]) = l.zip m ++ [(a, b)]
  | [], [], _, _, _ => rfl
  | [], _ :: _, _, _, h => by cases h
  | _ :: _, [], _, _, h => by cases h
  | x :: l, y :: m, a, b, h => by
    simp only [List.cons_append, List.zip_cons_cons]
    rw [zip_snoc a b (by simpa using h)]
theorem put_votes {r : Row} {v u : Addr} : putK (rowK r v) (Sum.inr "votes") (.ref u) = rowK r u := by simp [rowK, putK, ofString_inj]
theorem Cop.keep {H0 : Hp} {es : List OEnt} {us : List V} {H H' : Hp} (c : Cop H0 es us H) (n : NL H H') : Cop H0 es us H' := by
  obtain ⟨qs, as, h1, h2, h3, h4, h5, h6, h7⟩ := c.ex
  exact ⟨qs, as, h1, h2, h3, h4, h5, Paired.imp (fun q p e => n _ _ e (by intro xs z; cases z) (by intro xs y z; cases z)) h6, fun p hp => n _ _ (h7 p hp) (by intro xs z; cases z) (by intro xs y z; cases z)⟩
theorem paired_mapR {α β γ : Type} {F : α → γ → Prop} (f : β → γ) : ∀ {l : List α} {m : List β}, Paired (fun a b => F a (f b)) l m → Paired F l (m.map f)
  | _, _, .nil => .nil
  | _, _, .cons h t => .cons h (paired_mapR f t)
theorem Cop.nil (H0 H : Hp) : Cop H0 [] [] H := ⟨[], [], rfl, rfl, rfl, (by intro a h; cases h), List.nodup_nil, .nil, (by intro a h; cases h)⟩
theorem valV_of : ∀ {kvs : List (Key × V)}, (kvs.map (·.1)).Nodup → ∀ {k : Key} {v : V}, (k, v) ∈ kvs → valV kvs k = some v
  | [], _, _, _, h => by cases h
  | (k0, v0) :: t, nd, k, v, h => by
    rw [List.map_cons, List.nodup_cons] at nd
    rcases List.mem_cons.mp h with h | h
    · cases h
      rw [valV_pos rfl]
    · have : ¬ k0 = k := fun z => nd.1 (List.mem_map.mpr ⟨(k, v), h, z.symm⟩)
      rw [valV_neg (show ¬ (k0, v0).1 = k from this)]
      exact valV_of nd.2 h
/-- half way: the first votes are copied, too -/
structure Half (H H2 : Hp) (dd : Addr) (l : List (OEnt × Addr)) (i : Nat) (vs : List Addr) (H' : Hp) : Prop where
  s : Same H H'
  len : vs.length = i
  nd : vs.Nodup
  new : ∀ v ∈ vs, H2 v = none ∧ v ≠ dd
  vl : ∀ v ∈ vs, ∃ o, H' v = some o
  old : ∀ b o, H2 b = some o → b ≠ dd → (∃ o', H' b = some o')
  row : ∀ q ∈ (l.take i).zip vs, H' q.1.2 = some (.dK (rowK q.1.1.row q.2)) ∧ H' q.2 = some (.dK (votesK q.1.1.row.votes))
  rest : ∀ p ∈ l.drop i, H' p.2 = some (.dK (rowK p.1.row p.1.v))
section
variable {P : Program} {w : World} {K : PySem.W.Frag} {mg : Str → Option Value} {base : Heap}
def spOwnCopy (K : PySem.W.Frag) : Sp := fun vs H Q _ => ∃ O : OLay, vs = [.ref O.p] ∧ OwnAt H O ∧ ∀ O' H', (∀ b ∈ footO O', H b = none) → OwnAt H' O' → O'.wd = O.wd → Same H H' → Q (.ref O'.p) H'
abbrev N__law_own_copy : List Str := ["own", "rows", "number"]
theorem sc__law_own_copy : FnScope N__law_own_copy ["own"] (defScope s__law_own_copy) := ⟨rfl, rfl, rfl, by decide +kernel, rfl, by decide +kernel, by decide +kernel⟩
theorem be__law_own_copy : BindEq "_law_own_copy" "_law_own_copy" s__law_own_copy ["own"] := fun _ _ _ _ _ _ us hl => match us, hl with | [_], _ => rfl
theorem D__law_own_copy (T : Txt K mg base) : Def P w K mg base 1 (He.ga K "_law_own_copy") ["own"] (spOwnCopy K) := by
  refine mk_def T.f__law_own_copy sc__law_own_copy be__law_own_copy (fun vs H Q E h => ?_) (fun cdv A outer s H vs Q E hr h => ?_)
  · obtain ⟨O, rfl, _⟩ := h
    rfl
  · obtain ⟨O, rfl, B, k⟩ := h
    refine ⟨_, (pss_cons (ps_set (i := 1) sc__law_own_copy.nd rfl (Or.inl rfl) (pe_callTy (call_dictPN rfl) (by rfl) T.b_dict (by decide +kernel) (pa_cons (pe_lock (pe_lc (own := [("number", 2)]) (g := gName 2) rfl sc__law_own_copy.nd (pi_keys (pe_dg (pv 0) pe_str (by exact hu_of hr))) (blkOk_by (N := N__law_own_copy) (sc := defScope s__law_own_copy) (by decide +kernel)) (fun _ _ _ _ _ => by exact (pg_name (i := 2) sc__law_own_copy.nd rfl (Or.inl rfl))) (fun _ _ _ _ _ => pts_nil) (fun _ _ _ _ _ => by exact (pe_tupS (pa_cons (pv 2) (pa_cons (pe_callTy call_dictDN (by rfl) T.b_dict (by decide +kernel) (pa_cons (pe_dg (pe_dg (pv 0) pe_str (by exact hu_of hr)) (pv 2) (by exact hu_of hr)) pa_nil)) pa_nil)))))) pa_nil)))
      (pss_cons (ps_lock (ps_for ownE rfl (pi_keys (pv 1)) (pg_name (i := 2) sc__law_own_copy.nd rfl (Or.inl rfl))
      (pss_one (ps_dp (pe_dg (pv 1) (pv 2) (by exact hu_of hr)) pe_str (pe_callTy call_dictDN (by rfl) T.b_dict (by decide +kernel) (pa_cons (pe_dg (pe_dg (pe_dg (pv 0) pe_str (by exact hu_of hr)) (pv 2) (by exact hu_of hr)) pe_str (by exact hu_of hr)) pa_nil)) (by exact hu_of hr)))))
      (pss_one (ps_ret (pe_disp (pps_cons pe_str (pv 1) (pps_cons pe_str (pe_dg (pv 0) pe_str (by exact hu_of hr)) (pps_cons pe_str (pe_dg (pv 0) pe_str (by exact hu_of hr)) pps_nil))) (by rfl) (by rfl) (fun z => by cases z) (by decide)))))), ?_⟩
    walk_at "rd"
    refine lcKG (l := O.ents) oK (Cop H) B.dic (fun H' R kp h => ?_) (by have := B.rd.sz; rw [sizeLine_eq]; omega) (fun H' _ => Cop.nil _ _) (fun as us H1 H2 n c => c.keep n) (fun as us H1 c => ?_) (fun e as us H' od he hi kp hd c N1 N0 h1 h0 => ?_) (fun D H1 us nD s1 eD c => ?_)
    · walk_at "rd"
      exact ⟨_, g_rows (kp _ _ B.pd B.rd.top), h⟩
    · obtain ⟨qs, as', h1, h2, _⟩ := c.ex
      rw [h1, List.length_map, h2]
      exact Nat.le_refl _
    · walk_at "rd"
      have R' := B.lock kp hd
      have fe := findO_of B.rd.nk he
      obtain ⟨qs, as', c1, c2, c3, c4, c5, c6, c7⟩ := c.ex
      refine ⟨_, g_rows R'.top, _, rfl, _, R'.at fe, e.a, _, rfl, .inl (R'.row e he), fun a1 H1 na s1 ea => ⟨by rw [sizeLine_eq]; omega, fun q2 H2 nq s2 eq => h1 _ _ (s1.trans s2) ⟨qs ++ [q2], as' ++ [a1], ?_, ?_, ?_, ?_, ?_, ?_, ?_⟩⟩⟩
      · rw [c1, List.map_append]
        rfl
      · rw [List.length_append, List.length_append, c2]
        rfl
      · rw [List.length_append, List.length_append, c3]
        rfl
      · intro b hb
        rcases List.mem_append.mp hb with hb | hb
        · exact c4 b hb
        · cases List.mem_singleton.mp hb
          cases q : H a1 with
          | none => rfl
          | some o =>
            rw [kp a1 o (fun z => by rw [z, hd] at na; cases na) q] at na
            cases na
      · rw [List.nodup_append]
        refine ⟨c5, by simp, fun x hx y hy z => ?_⟩
        cases List.mem_singleton.mp hy
        obtain ⟨i, hi⟩ := List.mem_iff_getElem?.mp hx
        have : ∃ p ∈ as.zip as', p.2 = x := by
          have hl : i < as.length := by
            have := (List.getElem?_eq_some_iff.mp hi).1
            omega
          refine ⟨(as[i], x), List.mem_iff_getElem?.mpr ⟨i, ?_⟩, rfl⟩
          rw [List.getElem?_zip_eq_some]
          exact ⟨by simp [hl], hi⟩
        obtain ⟨p, hp, e2⟩ := this
        have h := c7 p hp
        rw [e2, z, na] at h
        cases h
      · rw [zip_snoc e a1 c3.symm]
        exact Paired.app (Paired.imp (fun q p h => s2 _ _ (s1 _ _ h)) c6) (.cons eq .nil)
      · intro p hp
        rw [zip_snoc e a1 c3.symm] at hp
        rcases List.mem_append.mp hp with hp | hp
        · exact s2 _ _ (s1 _ _ (c7 p hp))
        · cases List.mem_singleton.mp hp
          exact s2 _ _ ea
    · obtain ⟨qs, as, rfl, c2, c3, c4, c5, c6, c7⟩ := c.ex
      have ez1 : (O.ents.zip as).map (·.1) = O.ents := List.map_fst_zip (by omega)
      have ez2 : (O.ents.zip as).map (·.2) = as := List.map_snd_zip (by omega)
      have ek : ((O.ents.zip as).map fun p => ((Sum.inl p.1.n, V.ref p.2) : Key × V)).map (·.1) = (O.ents.map (·.n)).map Sum.inl := by
        rw [List.map_map, ← congrArg (List.map fun e : OEnt => e.n) ez1, List.map_map, List.map_map]
        rfl
      have ndk : (((O.ents.zip as).map fun p => ((Sum.inl p.1.n, V.ref p.2) : Key × V)).map (·.1)).Nodup := by
        rw [ek]
        exact List.Pairwise.map _ (fun a b h z => h (Sum.inl.inj z)) B.rd.nk
      refine ⟨D, qs, (O.ents.zip as).map fun p => (Sum.inl p.1.n, V.ref p.2), rfl, SqL.of eD, ?_, fun dd H2 nd s2 ed => ?_⟩
      · exact paired_mapR (fun p : OEnt × Addr => ((Sum.inl p.1.n, V.ref p.2) : Key × V)) (Paired.imp (fun q p h => .inl (.inl h)) c6)
      · rw [mergeK_nil ndk] at ed
        have s12 := s1.trans s2
        have ent : ∀ p ∈ O.ents.zip as, p.1 ∈ O.ents := fun p hp => by
          rw [← ez1]
          exact List.mem_map.mpr ⟨p, hp, rfl⟩
        have ndz : ((O.ents.zip as).map (·.2)).Nodup := by rw [ez2]; exact c5
        have zl : (O.ents.zip as).length = O.ents.length := by rw [← congrArg List.length ez1, List.length_map]
        have dna : ∀ p ∈ O.ents.zip as, p.2 ≠ dd := fun p hp z => by
          have := c7 p hp
          rw [z, nd] at this
          cases this
        refine forK (l := O.ents.zip as) (fun p => ((Sum.inl p.1.n, V.ref p.2) : Key × V)) ed (fun H' R kp h => ?_) (fun od i σ' H' => H' dd = some (.frz od (.dK ((O.ents.zip as).map fun p => ((Sum.inl p.1.n, V.ref p.2) : Key × V)))) ∧ ∃ (vs : List Addr) (x2 : Option V), σ' = [some (.ref O.p), some (.ref dd), x2] ∧ Half H H2 dd (O.ents.zip as) i vs H')
          (fun od H' kp kb hd => ⟨hd, [], _, rfl, ⟨fun b o e => kp b o (fun z => by rw [z, none_back s1 nd] at e; cases e) (s12 b o e), rfl, List.nodup_nil, (by intro v hv; cases hv), (by intro v hv; cases hv), fun b o e n => ⟨o, kp b o n e⟩, (by intro q hq; simp at hq), fun p hp => kp _ _ (dna p (by simpa using hp)) (s2 _ _ (c7 p (by simpa using hp)))⟩⟩) (fun od i σ' H' _ h => h.1) (fun od i p σ' H' D' hi h nx ct rt => ?_) (fun od σ' H' h => ?_)
        · walk_at "rd"
          exact h
        · obtain ⟨hd, vs, x2, rfl, c⟩ := h
          have mp := List.mem_of_getElem? hi
          have me := ent p mp
          have fe := findO_of B.rd.nk me
          have B' := B.same c.s
          have pd : p ∈ (O.ents.zip as).drop i := List.mem_iff_getElem?.mpr ⟨0, by rw [List.getElem?_drop]; simpa using hi⟩
          walk_at "rd"
          have hspl : O.ents.zip as = (O.ents.zip as).take i ++ p :: (O.ents.zip as).drop (i + 1) := by rw [← drop_cons hi, List.take_append_drop]
          have nd2 := ndz
          rw [hspl, List.map_append, List.map_cons, List.nodup_append, List.nodup_cons] at nd2
          obtain ⟨_, ⟨nd3, _⟩, nd4⟩ := nd2
          have tk : (O.ents.zip as).take (i + 1) = (O.ents.zip as).take i ++ [p] := by rw [List.take_add_one, hi]; rfl
          have tl : ((O.ents.zip as).take i).length = vs.length := by
            have := (List.getElem?_eq_some_iff.mp hi).1
            rw [List.length_take, c.len]
            omega
          have pas : p.2 ∈ as := by rw [← ez2]; exact List.mem_map.mpr ⟨p, mp, rfl⟩
          have mk : ((Sum.inl p.1.n, V.ref p.2) : Key × V) ∈ (O.ents.zip as).map fun p => ((Sum.inl p.1.n, V.ref p.2) : Key × V) := List.mem_map.mpr ⟨p, mp, rfl⟩
          have hp' := c.rest p pd
          refine ⟨_, g_rows B'.rd.top, _, rfl, _, B'.rd.at fe, _, rfl, _, g_votes (B'.rd.row p.1 me), p.1.v, _, rfl, .inl (B'.rd.vot p.1 me), fun v1 H3 nv s3 ev => ⟨_, .inl ⟨_, Sum.inl p.1.n, .inr ⟨od, s3 _ _ hd⟩, rfl, (valV_of ndk mk).symm⟩, _, rfl, _, DPut.k (k := Sum.inr "votes") (s3 _ _ hp') (by show 5 < sizeLine; rw [sizeLine_eq]; omega), ?_⟩⟩
          rw [put_votes]
          have vp : v1 ≠ p.2 := fun z => by rw [z, hp'] at nv; cases nv
          have vd : v1 ≠ dd := fun z => by rw [z, hd] at nv; cases nv
          have h2p : H2 p.2 = some (.dK (rowK p.1.row p.1.v)) := s2 _ _ (c7 p mp)
          refine nx _ _ ⟨by rw [upd_ne (Ne.symm (dna p mp))]; exact s3 _ _ hd, vs ++ [v1], _, rfl, ⟨fun b o e => ?_, ?_, ?_, fun v hv => ?_, fun v hv => ?_, fun b o e n => ?_, fun q hq => ?_, fun p' hp => ?_⟩⟩
          · rw [upd_ne (fun z => by rw [z, c4 _ pas] at e; cases e)]
            exact s3 _ _ (c.s b o e)
          · rw [List.length_append, c.len]
            rfl
          · rw [List.nodup_append]
            refine ⟨c.nd, by simp, fun x hx y hy z => ?_⟩
            cases List.mem_singleton.mp hy
            obtain ⟨o, ho⟩ := c.vl x hx
            rw [z, nv] at ho
            cases ho
          · rcases List.mem_append.mp hv with hv | hv
            · exact c.new v hv
            · cases List.mem_singleton.mp hv
              refine ⟨?_, vd⟩
              cases q : H2 v1 with
              | none => rfl
              | some o =>
                obtain ⟨o', ho'⟩ := c.old v1 o q vd
                rw [nv] at ho'
                cases ho'
          · by_cases z : v = p.2
            · exact ⟨_, by rw [z, upd_same]⟩
            · rcases List.mem_append.mp hv with hv | hv
              · obtain ⟨o, ho⟩ := c.vl v hv
                exact ⟨o, by rw [upd_ne z]; exact s3 _ _ ho⟩
              · cases List.mem_singleton.mp hv
                exact ⟨_, by rw [upd_ne z]; exact ev⟩
          · by_cases z : b = p.2
            · exact ⟨_, by rw [z, upd_same]⟩
            · obtain ⟨o', ho⟩ := c.old b o e n
              exact ⟨o', by rw [upd_ne z]; exact s3 _ _ ho⟩
          · rw [tk, zip_snoc p v1 tl] at hq
            rcases List.mem_append.mp hq with hq | hq
            · obtain ⟨r1, r2⟩ := c.row q hq
              have m1 : q.1 ∈ (O.ents.zip as).take i := (List.of_mem_zip hq).1
              have m2 : q.2 ∈ vs := (List.of_mem_zip hq).2
              refine ⟨by rw [upd_ne (nd4 _ (List.mem_map.mpr ⟨_, m1, rfl⟩) _ List.mem_cons_self)]; exact s3 _ _ r1, by rw [upd_ne (fun z => by rw [z] at m2; rw [(c.new _ m2).1] at h2p; cases h2p)]; exact s3 _ _ r2⟩
            · cases List.mem_singleton.mp hq
              exact ⟨upd_same, by rw [upd_ne vp]; exact ev⟩
          · rw [upd_ne (fun z => nd3 (List.mem_map.mpr ⟨p', hp, z⟩))]
            refine s3 _ _ (c.rest p' ?_)
            rw [drop_cons hi]
            exact List.mem_cons_of_mem _ hp
        · obtain ⟨hd, vs, x2, rfl, c⟩ := h
          walk_at "rd"
          intro pp npp
          simp only [tPairs, tC, tVar, tDGet]
          have ndd : H dd = none := none_back s1 nd
          have pdd : pp ≠ dd := fun z => by rw [z, upd_same] at npp; cases npp
          have np' : H' pp = none := by rw [upd_ne pdd] at npp; exact npp
          have npH : H pp = none := none_back c.s np'
          have kF : ∀ b o, b ≠ pp → b ≠ dd → H' b = some o → upd (upd H' dd (.dK ((O.ents.zip as).map fun p => ((Sum.inl p.1.n, V.ref p.2) : Key × V)))) pp (.dK []) b = some o := fun b o h1 h2 e => by rw [upd_ne h1, upd_ne h2]; exact e
          have oP : upd (upd H' dd (.dK ((O.ents.zip as).map fun p => ((Sum.inl p.1.n, V.ref p.2) : Key × V)))) pp (.dK []) O.p = some (.dK (ownK O.d O.came O.clock)) := kF _ _ (fun z => by have := B.rd.top; rw [z, npH] at this; cases this) (fun z => by have := B.rd.top; rw [z, ndd] at this; cases this) (c.s _ _ B.rd.top)
          refine ⟨_, rfl, _, rfl, _, _, rfl, g_came oP, _, rfl, _, _, rfl, g_clock oP, upd_same, ownK dd O.came O.clock, rfl, by show 3 ≤ 15; decide, ?_⟩
          have em : mergeK [] (ownK dd O.came O.clock) = ownK dd O.came O.clock := by simp [mergeK, ownK, putK, ofString_inj]
          rw [em]
          have kG : ∀ b o, b ≠ pp → b ≠ dd → H' b = some o → upd (upd (upd H' dd (.dK ((O.ents.zip as).map fun p => ((Sum.inl p.1.n, V.ref p.2) : Key × V)))) pp (.dK [])) pp (.dK (ownK dd O.came O.clock)) b = some o := fun b o h1 h2 e => by rw [upd_ne h1]; exact kF b o h1 h2 e
          have gP : upd (upd (upd H' dd (.dK ((O.ents.zip as).map fun p => ((Sum.inl p.1.n, V.ref p.2) : Key × V)))) pp (.dK [])) pp (.dK (ownK dd O.came O.clock)) pp = some (.dK (ownK dd O.came O.clock)) := upd_same
          have gD : upd (upd (upd H' dd (.dK ((O.ents.zip as).map fun p => ((Sum.inl p.1.n, V.ref p.2) : Key × V)))) pp (.dK [])) pp (.dK (ownK dd O.came O.clock)) dd = some (.dK ((O.ents.zip as).map fun p => ((Sum.inl p.1.n, V.ref p.2) : Key × V))) := by rw [upd_ne (Ne.symm pdd), upd_ne (Ne.symm pdd), upd_same]
          generalize upd (upd (upd H' dd (.dK ((O.ents.zip as).map fun p => ((Sum.inl p.1.n, V.ref p.2) : Key × V)))) pp (.dK [])) pp (.dK (ownK dd O.came O.clock)) = F at kG gP gD
          have row := c.row
          rw [List.take_length] at row
          have vlen := c.len
          have y1 : (((O.ents.zip as).zip vs).map (·.1)) = O.ents.zip as := List.map_fst_zip (by omega)
          have y2 : (((O.ents.zip as).zip vs).map (·.2)) = vs := List.map_snd_zip (by omega)
          have ea : ((((O.ents.zip as).zip vs).map fun q => (⟨q.1.1.n, q.1.1.row, q.1.2, q.2⟩ : OEnt)).map (·.a)) = as := by
            have := congrArg (List.map fun p : OEnt × Addr => p.2) y1
            rw [List.map_map, ez2] at this
            rw [List.map_map]
            exact this
          have ev : ((((O.ents.zip as).zip vs).map fun q => (⟨q.1.1.n, q.1.1.row, q.1.2, q.2⟩ : OEnt)).map (·.v)) = vs := by
            rw [List.map_map]
            exact y2
          have er : ((((O.ents.zip as).zip vs).map fun q => (⟨q.1.1.n, q.1.1.row, q.1.2, q.2⟩ : OEnt)).map fun e => (e.n, e.row)) = O.rows := by
            rw [List.map_map]
            unfold OLay.rows
            rw [← congrArg (List.map fun e : OEnt => (e.n, e.row)) ez1, ← congrArg (List.map fun p : OEnt × Addr => p.1) y1, List.map_map, List.map_map]
            rfl
          have eK : ((((O.ents.zip as).zip vs).map fun q => (⟨q.1.1.n, q.1.1.row, q.1.2, q.2⟩ : OEnt)).map oK) = (O.ents.zip as).map fun p => ((Sum.inl p.1.n, V.ref p.2) : Key × V) := by
            rw [List.map_map, ← congrArg (List.map fun p : OEnt × Addr => ((Sum.inl p.1.n, V.ref p.2) : Key × V)) y1, List.map_map]
            rfl
          have al : ∀ b ∈ as, ∃ o, H2 b = some o ∧ b ≠ dd := fun b hb => by
            rw [← ez2] at hb
            obtain ⟨p, hp, rfl⟩ := List.mem_map.mp hb
            exact ⟨_, s2 _ _ (c7 p hp), dna p hp⟩
          have ap : ∀ b ∈ as, b ≠ pp := fun b hb z => by
            obtain ⟨o, h1, h2⟩ := al b hb
            obtain ⟨o', h3⟩ := c.old b o h1 h2
            rw [z, np'] at h3
            cases h3
          have vpp : ∀ v ∈ vs, v ≠ pp := fun v hv z => by
            obtain ⟨o', h3⟩ := c.vl v hv
            rw [z, np'] at h3
            cases h3
          have mem : ∀ e ∈ (((O.ents.zip as).zip vs).map fun q => (⟨q.1.1.n, q.1.1.row, q.1.2, q.2⟩ : OEnt)), F e.a = some (.dK (rowK e.row e.v)) ∧ F e.v = some (.dK (votesK e.row.votes)) ∧ ∃ e0 ∈ O.ents, e0.row = e.row := fun e he => by
            obtain ⟨q, hq, rfl⟩ := List.mem_map.mp he
            obtain ⟨r1, r2⟩ := row q hq
            obtain ⟨m1, m2⟩ := List.of_mem_zip hq
            have ma : q.1.2 ∈ as := by rw [← ez2]; exact List.mem_map.mpr ⟨_, m1, rfl⟩
            exact ⟨kG _ _ (ap _ ma) (dna _ m1) r1, kG _ _ (vpp _ m2) (c.new _ m2).2 r2, q.1.1, ent _ m1, rfl⟩
          refine k ⟨pp, dd, ((O.ents.zip as).zip vs).map fun q => ⟨q.1.1.n, q.1.1.row, q.1.2, q.2⟩, O.came, O.clock⟩ F (fun b hb => ?_) ⟨⟨gP, .inl (by rw [gD, ← eK]), fun e he => (mem e he).1, fun e he => (mem e he).2.1, ?_, fun e he => ?_, ?_, fun e he => ?_⟩, by rw [gD, ← eK], ?_⟩ ?_ (fun b o e => ?_)
          · unfold footO at hb
            rw [ea, ev] at hb
            simp only [List.mem_cons, List.mem_append] at hb
            rcases hb with rfl | rfl | hb | hb
            · exact npH
            · exact ndd
            · exact c4 b hb
            · exact none_back s12 (c.new b hb).1
          · have := congrArg (List.map (·.1)) er
            rw [List.map_map] at this
            show (List.map (fun e : OEnt => e.n) _).Nodup
            rw [show (List.map (fun e : OEnt => e.n) (((O.ents.zip as).zip vs).map fun q => (⟨q.1.1.n, q.1.1.row, q.1.2, q.2⟩ : OEnt))) = O.rows.map (·.1) from this]
            unfold OLay.rows
            rw [List.map_map]
            exact B.rd.nk
          · obtain ⟨_, _, e0, h0, h1⟩ := mem e he
            rw [← h1]
            exact B.rd.ndv e0 h0
          · have := congrArg List.length er
            rw [List.length_map] at this
            show (((O.ents.zip as).zip vs).map fun q => (⟨q.1.1.n, q.1.1.row, q.1.2, q.2⟩ : OEnt)).length < 64
            rw [this]
            unfold OLay.rows
            rw [List.length_map]
            exact B.rd.sz
          · obtain ⟨_, _, e0, h0, h1⟩ := mem e he
            rw [← h1]
            exact B.rd.vsz e0 h0
          · unfold footO
            rw [ea, ev, List.nodup_cons, List.nodup_cons, List.nodup_append]
            refine ⟨?_, ?_, c5, c.nd, fun x hx y hy z => ?_⟩
            · simp only [List.mem_cons, List.mem_append]
              rintro (z | z | z)
              · exact pdd z
              · exact ap _ z rfl
              · exact vpp _ z rfl
            · simp only [List.mem_append]
              rintro (z | z)
              · exact (al _ z).choose_spec.2 rfl
              · exact (c.new _ z).2 rfl
            · obtain ⟨o, h1, _⟩ := al x hx
              rw [z, (c.new y hy).1] at h1
              cases h1
          · show (⟨List.map (fun e : OEnt => (e.n, e.row)) _, O.came, O.clock⟩ : Wd) = ⟨O.rows, O.came, O.clock⟩
            rw [er]
          · exact kG b o (fun z => by rw [z, npH] at e; cases e) (fun z => by rw [z, ndd] at e; cases e) (c.s b o e)
end
end Vw
namespace Vw
open PySem PySem.Spec PyProof.Rows L2
local macro_rules | `(tactic| walk_at "rd") => `(tactic| simp only [tSeq, tNext, tIfS, tAsg, tRet, tRetN, tDrop, tVar, tC, tOp, tUn, tTest, tB, tAnd, tOr, tNot, tAndV, tOrV, tNotV, tIf, tChain, tCB, tCons, tNil, tCall, tMeth, tMake, tFld, sFld, tTup, tLst, tTupS, tLstS, tDNewKS, tDNewTS, tTold, tCmp, t2I, tIsN, tNotN, tPar, gName, gNil, gCons, gTup, gSub, rI0, rU, rEq, rNe, tDGet, tDIn, tDNotIn, sDPut, tDNewK, tDGet1, tDGet2, tDPop1, tDPop2, tBM, tBM0, tM0, tM1, tSl, tPart, tNoPart, tBreak, tCont, tThru, L2.start, List.map_cons, List.map_nil, List.length_cons, List.length_nil, List.cons_append, List.nil_append, List.append_nil, List.replicate_succ, List.replicate_zero, Nat.reduceAdd, Nat.reduceSub, Nat.zero_add, List.getElem?_cons_zero, List.getElem?_cons_succ, List.set_cons_zero, List.set_cons_succ, wipe, cxOf_K, tYes, List.cons.injEq, and_self, Option.some.injEq, V.int.injEq, V.bl.injEq, V.ref.injEq, V.str.injEq, exists_eq_left', exists_eq_left, exists_and_left, and_assoc, true_and, and_true, if_true, if_false, ite_true, ite_false, Bool.not_true, Bool.not_false, Bool.false_eq_true, reduceIte])
section
variable {P : Program} {w : World} {K : PySem.W.Frag} {mg : Str → Option Value} {base : Heap}
def spWhole (K : PySem.W.Frag) : Sp := fun vs H Q _ => ∃ (L : Lay) (O : OLay) (m : Nat), vs = [.ref L.p, .ref O.p] ∧ Pair K H L O ∧ L.wd = O.wd ∧ Fine L.wd m ∧ ∀ H', Same H H' → Q (.bl true) H'
abbrev N__law_is_whole : List Str := ["wood", "own", "number"]
theorem sc__law_is_whole : FnScope N__law_is_whole ["wood", "own"] (defScope s__law_is_whole) := ⟨rfl, rfl, rfl, by decide +kernel, rfl, by decide +kernel, by decide +kernel⟩
theorem be__law_is_whole : BindEq "_law_is_whole" "_law_is_whole" s__law_is_whole ["wood", "own"] := fun _ _ _ _ _ _ us hl => match us, hl with | [_, _], _ => rfl
theorem D__law_is_whole (T : Txt K mg base) : Def P w K mg base 15 (He.ga K "_law_is_whole") ["wood", "own"] (spWhole K) := by
  refine mk_def T.f__law_is_whole sc__law_is_whole be__law_is_whole (fun vs H Q E h => ?_) (fun cdv A outer s H vs Q E hr h => ?_)
  · obtain ⟨L, O, m, rfl, _⟩ := h
    rfl
  · obtain ⟨L, O, m, rfl, P1, e, f, k⟩ := h
    refine ⟨_, (pss_one (ps_ret (pe_and (pe_cd (D__law_like T) (by exact hr.mono (by first | decide | omega)) T.g__law_like passE (pa_cons (pv 0) (pa_cons (pv 1) pa_nil))) (pe_one (pe_callB (cr_all rfl) (by rfl) T.b_all (by decide +kernel) (pa_cons (pe_lock (pe_lc (own := [("number", 2)]) (g := gName 2) rfl sc__law_is_whole.nd (pi_keys (pe_dg (pv 1) pe_str (by exact hu_of hr))) (blkOk_by (N := N__law_is_whole) (sc := defScope s__law_is_whole) (by decide +kernel)) (fun _ _ _ _ _ => by exact (pg_name (i := 2) sc__law_is_whole.nd rfl (Or.inl rfl))) (fun _ _ _ _ _ => pts_nil) (fun _ _ _ _ _ => by exact (pe_cd (D__law_one_likeL T) (by exact hr.mono (by first | decide | omega)) T.g__law_one_like passF (pa_cons (pv 0) (pa_cons (pv 1) (pa_cons (pv 2) pa_nil))))))) pa_nil)))))), ?_⟩
    walk_at "rd"
    have er := rows_eq e
    refine ⟨L, O, rfl, P1.W, P1.B, e, f.G, f.vo, fun H1 s1 => ?_⟩
    have P8 := P1.same s1
    refine ⟨_, rfl, iteT ?_⟩
    refine lcK (l := O.ents) oK (fun _ => some (.bl true)) P8.B.dic (fun H' R kp h => ?_) (by have := P8.B.rd.sz; rw [sizeLine_eq]; omega) (fun e1 H' od he kp hd N1 N0 h1 h0 => ?_) (fun D H9 nD s9 eD => ?_)
    · walk_at "rd"
      exact ⟨_, g_rows (kp _ _ P8.B.pd P8.B.rd.top), h⟩
    · walk_at "rd"
      have mr : (e1.n, e1.row) ∈ L.rows := by
        rw [← er]
        exact List.mem_map.mpr ⟨e1, he, rfl⟩
      have dO : O.d ∈ footO O := List.mem_cons_of_mem _ List.mem_cons_self
      exact ⟨L, O, e1.n, rfl, P8.W.wkF (fun b o hb z => kp b o (fun y => P8.ap b hb (y ▸ dO)) z), P8.B.lk kp hd, e, f.G, f.vo, f.ro, ⟨e1.row, findR_of f.G.wf.nk mr⟩, fun H9 s9 => h1 _ _ s9 rfl⟩
    · have el : O.ents.filterMap (fun _ => some (V.bl true)) = (O.ents.map fun _ => true).map V.bl := by
        rw [List.filterMap_eq_map', List.map_map]
        rfl
      rw [el] at eD
      refine ⟨D, _, rfl, SqL.of eD, ?_⟩
      have ea : (O.ents.map fun _ => true).all id = true := by
        rw [List.all_map]
        exact List.all_eq_true.mpr fun _ _ => rfl
      rw [ea]
      exact k H9 (s1.trans s9)
def DAt (K : PySem.W.Frag) (H : Hp) (p : Addr) (ds : List Deed) : Prop := ∃ qs : List Addr, H p = some (.lst (qs.map V.ref)) ∧ Paired (fun q d => SqT K H q (Deed.tup d)) qs ds
theorem DAt.lk {H H' : Hp} {p : Addr} {ds : List Deed} (h : DAt K H p ds) (s : LK H H') : DAt K H' p ds := by
  obtain ⟨qs, h1, h2⟩ := h
  exact ⟨qs, s.lst h1, Paired.imp (fun q d e => s.sqt e) h2⟩
theorem DAt.same {H H' : Hp} {p : Addr} {ds : List Deed} (h : DAt K H p ds) (s : Same H H') : DAt K H' p ds := h.lk (LK.same s)
def spReplayed (K : PySem.W.Frag) : Sp := fun vs H Q _ => ∃ (p : Addr) (ds : List Deed) (M : Wd), vs = [.ref p] ∧ DAt K H p ds ∧ (∀ d ∈ ds, DeedOk d) ∧ ds.length ≤ 1000 ∧ plays ⟨[], 0, 0⟩ ds = some M ∧
  ∀ O H', (∀ b ∈ footO O, H b = none) → OwnAt H' O → O.wd = M → Same H H' → Q (.ref O.p) H'
end
end Vw
namespace Vw
open PySem PySem.Spec PyProof.Rows L2
/-! ### a ledger, the law's own wood, and copies of it that were kept -/
def StAt (K : PySem.W.Frag) (H : Hp) (sl : Addr) (Ss : List OLay) : Prop := ∃ qs : List Addr, H sl = some (.lst (qs.map V.ref)) ∧ Paired (fun q S => SqT K H q [.int (OLay.clock S), .ref S.p] ∧ OwnAt H S) qs Ss
structure ST (K : PySem.W.Frag) (H0 H : Hp) (G : GLay) (O : OLay) (sl : Addr) (Ss : List OLay) : Prop where
  P : LP K H0 H G O
  st : StAt K H sl Ss
  ao : ∀ S ∈ Ss, ∀ b ∈ footO S, b ∉ footO O
  ag : ∀ S ∈ Ss, ∀ b ∈ footO S, b ∉ footG G
  ng : sl ∉ footG G
  nw : ∀ o, H0 sl = some o → ∃ ps, o = .tbl ps
section
variable {K : PySem.W.Frag} {H0 H H' : Hp} {G G' : GLay} {O O' : OLay} {sl : Addr} {Ss : List OLay}
theorem paired_and {α β : Type} {F : α → β → Prop} {Pb : β → Prop} : ∀ {l : List α} {m : List β}, Paired F l m → (∀ b ∈ m, Pb b) → Paired (fun a b => F a b ∧ Pb b) l m
  | _, _, .nil, _ => .nil
  | _, _, .cons f t, h => .cons ⟨f, h _ List.mem_cons_self⟩ (paired_and t fun b hb => h b (List.mem_cons_of_mem _ hb))
theorem StAt.keep (h : StAt K H sl Ss) (kl : ∀ o, H sl = some o → H' sl = some o) (kt : ∀ a xs, SqT K H a xs → SqT K H' a xs) (ko : ∀ S ∈ Ss, ∀ b ∈ footO S, ∀ o, H b = some o → H' b = some o) : StAt K H' sl Ss := by
  obtain ⟨qs, h1, h2⟩ := h
  exact ⟨qs, kl _ h1, Paired.imp (fun q S z => ⟨kt _ _ z.1.1, z.1.2.wk fun b o hb e => z.2 b hb o e⟩) (paired_and h2 ko)⟩
theorem paired_mem {α β : Type} {F : α → β → Prop} : ∀ {l : List α} {m : List β}, Paired F l m → ∀ b ∈ m, ∃ a, F a b
  | _, _, .nil, b, h => by cases h
  | _, _, .cons f t, b, h => by
    rcases List.mem_cons.mp h with rfl | h
    · exact ⟨_, f⟩
    · exact paired_mem t b h
theorem StAt.own (h : StAt K H sl Ss) : ∀ S ∈ Ss, OwnAt H S := fun S hS => by
  obtain ⟨qs, _, h2⟩ := h
  obtain ⟨a, h3⟩ := paired_mem h2 S hS
  exact h3.2
theorem StAt.ext (h : StAt K H sl Ss) (x : LamX.ExtN H H') : StAt K H' sl Ss := h.keep (fun o e => x sl o e fun ps z => by
    obtain ⟨qs, h1, _⟩ := h
    rw [h1, z] at e
    cases e) (fun a xs t => (LK.ext x).sqt t) fun S hS b hb o e => x b o e fun ps z => by
    obtain ⟨k, hk⟩ := footO_obj (h.own S hS) hb
    rw [e, z] at hk
    cases hk
theorem ST.ext (S : ST K H0 H G O sl Ss) (x : LamX.ExtN H H') (T : LamX.Tabs (tabs K) H') : ST K H0 H' G O sl Ss := ⟨S.P.ext x T, S.st.ext x, S.ao, S.ag, S.ng, S.nw⟩
theorem ST.same (S : ST K H0 H G O sl Ss) (s : Same H H') : ST K H0 H' G O sl Ss := S.ext (LamX.ExtN.of s) (S.P.T.ext s)
theorem ST.step (S : ST K H0 H G O sl Ss) (g : GStep H G H' G') (r : LgAt K H' G') : ST K H0 H' G' O sl Ss := by
  have out : ∀ {b : Addr} {o : HO}, b ∉ footG G → H b = some o → b ∉ footG G' := fun {b o} h1 h2 c => by
    rcases g.new b c with z | z
    · exact h1 z
    · rw [h2] at z; cases z
  refine ⟨S.P.step g r, S.st.keep (fun o e => g.keep _ _ S.ng e) (fun a xs t => sqt_keep t fun o e n _ m => g.keep _ _ (S.P.lg.off e n m) e) (fun s hs b hb o e => g.keep _ _ (S.ag s hs b hb) e), S.ao, fun s hs b hb => ?_, ?_, S.nw⟩
  · obtain ⟨k, hk⟩ := footO_obj (S.st.own s hs) hb
    exact out (S.ag s hs b hb) hk
  · obtain ⟨qs, h1, _⟩ := S.st
    exact out S.ng h1
theorem ST.ostep (S : ST K H0 H G O sl Ss) (g : OStep H O H' O') (B : OwnAt H' O') : ST K H0 H' G O' sl Ss := by
  have off : ∀ {b o}, H b = some o → (∀ k, o ≠ .dK k) → b ∉ footO O := fun {b o} h n c => by
    obtain ⟨k, hk⟩ := footO_obj S.P.B c
    rw [h] at hk
    cases hk
    exact n k rfl
  refine ⟨S.P.ostep g B, S.st.keep (fun o e => g.keep _ _ (off e fun k z => ?_) e) (fun a xs t => sqt_keep t fun o e n _ m => g.keep _ _ (off e fun k z => n (.inr ⟨k, z⟩)) e) (fun s hs b hb o e => g.keep _ _ (S.ao s hs b hb) e), fun s hs b hb c => ?_, S.ag, S.ng, S.nw⟩
  · obtain ⟨qs, h1, _⟩ := S.st
    rw [h1, z] at e
    cases e
  · obtain ⟨k, hk⟩ := footO_obj (S.st.own s hs) hb
    rcases g.new b c with z | z
    · exact S.ao s hs b hb z
    · rw [z] at hk
      cases hk
/-- one more is kept -/
theorem ST.put {N : OLay} {q : Addr} (S : ST K H0 H G O sl Ss) (B : OwnAt H N) (no : ∀ b ∈ footO N, b ∉ footO O) (ng : ∀ b ∈ footO N, b ∉ footG G) (hq : SqT K H q [.int N.clock, .ref N.p]) {qs : List Addr} (hl : H sl = some (.lst (qs.map V.ref))) (hp : Paired (fun q S => SqT K H q [.int (OLay.clock S), .ref S.p] ∧ OwnAt H S) qs Ss) :
    ST K H0 (upd H sl (.lst (qs.map V.ref ++ [.ref q]))) G O sl (Ss ++ [N]) := by
  have kp : ∀ b o, b ≠ sl → H b = some o → upd H sl (.lst (qs.map V.ref ++ [.ref q])) b = some o := fun b o h e => by rw [upd_ne h]; exact e
  have nl : ∀ {b o}, H b = some o → (∀ xs, o ≠ .lst xs) → b ≠ sl := fun {b o} e n c => by
    rw [c, hl] at e
    cases e
    exact n _ rfl
  have kt : ∀ a xs, SqT K H a xs → SqT K (upd H sl (.lst (qs.map V.ref ++ [.ref q]))) a xs := fun a xs t => sqt_keep t fun o e _ _ m => kp a o (nl e m) e
  have kO : ∀ {M : OLay}, OwnAt H M → OwnAt (upd H sl (.lst (qs.map V.ref ++ [.ref q]))) M := fun {M} h => h.wk fun b o hb e => kp b o (fun c => by
    obtain ⟨k, hk⟩ := footO_obj h hb
    rw [c, hl] at hk
    cases hk) e
  refine ⟨⟨S.P.lg.keep (fun b hb o e => kp b o (fun c => S.ng (c ▸ hb)) e) kt, kO S.P.B, S.P.ap, fun b o e n => kp b o (fun c => ?_) (S.P.x b o e n), S.P.new, ?_⟩, ⟨qs ++ [q], ?_, Paired.app (Paired.imp (fun q S z => ⟨kt _ _ z.1, kO z.2⟩) hp) (.cons ⟨kt _ _ hq, kO B⟩ .nil)⟩, fun s hs => ?_, fun s hs => ?_, S.ng, S.nw⟩
  · obtain ⟨ps, hps⟩ := S.nw o (c ▸ e)
    exact n ps hps
  · intro p hp2
    obtain ⟨ps, h1, h2, h3⟩ := S.P.T p hp2
    refine ⟨ps, kp _ _ (nl h1 (by intro xs z; cases z)) h1, h2, fun pos cv hc => ?_⟩
    obtain ⟨c, e1, e2⟩ := h3 pos cv hc
    exact ⟨c, e1, kp _ _ (nl e2 (by intro xs z; cases z)) e2⟩
  · rw [upd_same, List.map_append]
    rfl
  · rcases List.mem_append.mp hs with hs | hs
    · exact S.ao s hs
    · cases List.mem_singleton.mp hs
      exact no
  · rcases List.mem_append.mp hs with hs | hs
    · exact S.ag s hs
    · cases List.mem_singleton.mp hs
      exact ng
end
section
variable {K : PySem.W.Frag} {H0 H : Hp} {G : GLay} {O : OLay} {sl : Addr} {Ss : List OLay} {Q : VK} {E : XK} {d : Deed} {p : Addr} {m : Nat}
theorem use_actP (S : ST K H0 H G O sl Ss) (f : Fine O.wd m) (hm : m ≤ 9000) (ok : DeedOk d) (hp : SqT K H p d.tup)
    (k : ∀ v H' O', ST K H0 H' G O' sl Ss → O'.p = O.p → O'.wd = actW O.wd d → SqT K H' p d.tup → Dp K H' v (actD O.wd d) → Q v H') : spAct K [.ref O.p, .ref p] H Q E := by
  refine ⟨O, p, d, rfl, hp, S.P.B, f.G, ok, f.vo, f.entsO hm, fun v M h H' O' B' e' g => k v H' O' (S.ostep g B') g.p ?_ (sqt_keep hp fun o e n _ _ => g.keep p o (fun c => ?_) e) ?_, fun e h r H' n s hr => k _ H' O (S.same s) rfl ?_ (Same.tup s hp) ?_⟩
  · rw [e']
    unfold actW
    rw [h]
  · obtain ⟨k, hk⟩ := footO_obj S.P.B c
    rw [e] at hk
    cases hk
    exact n (.inr ⟨_, rfl⟩)
  · unfold actD
    rw [h]
    rcases act_val h with rfl | ⟨i, rfl⟩
    · exact .non
    · exact .int i
  · unfold actW
    rw [h]
  · unfold actD
    rw [h]
    exact dp_refu hr
end
theorem pair_new {K : PySem.W.Frag} {H H' : Hp} {L : Lay} {O : OLay} (W : WoodAt K H L) (nO : ∀ b ∈ footO O, H b = none) (s : Same H H') (B : OwnAt H' O) : Pair K H' L O := by
  refine ⟨W.same s, B, fun b hb hO => ?_⟩
  obtain ⟨o, ho, _⟩ := foot_live W hb
  rw [nO b hO] at ho
  cases ho
theorem pair_old {K : PySem.W.Frag} {H H' : Hp} {L : Lay} {O : OLay} (B : OwnAt H O) (nf : ∀ b ∈ foot L, H b = none) (W : WoodAt K H' L) (s : Same H H') : Pair K H' L O := by
  refine ⟨W, B.same s, fun b hb hO => ?_⟩
  obtain ⟨k, hk⟩ := footO_obj B hO
  rw [nf b hb] at hk
  cases hk
theorem atI_neg1 : ∀ {l : List V} {x : V}, l.getLast? = some x → atI l (-1) = some x := fun {l x} h => by
  rcases snoc_cases l with rfl | ⟨m, a, rfl⟩
  · cases h
  · rw [List.getLast?_concat] at h
    cases h
    exact atI_last _ _
theorem last_stand {Ss : List OLay} {t : Int} {M : Wd} (h : ((Ss.map OLay.wd).filter fun N => decide (N.clock ≤ t)).getLast? = some M) : ∃ S ∈ Ss, S.wd = M ∧ (Ss.filter fun S => decide (S.clock ≤ t)).getLast? = some S := by
  rw [List.filter_map, List.getLast?_map] at h
  cases e : (Ss.filter ((fun N : Wd => decide (N.clock ≤ t)) ∘ OLay.wd)).getLast? with
  | none => rw [e] at h; cases h
  | some S =>
    rw [e] at h
    refine ⟨S, (List.mem_filter.mp (List.mem_of_getLast? e)).1, Option.some.inj h, ?_⟩
    exact e
theorem paired_zip {α β : Type} {F : α → β → Prop} : ∀ {l : List α} {m : List β}, Paired F l m → ∀ p ∈ l.zip m, F p.1 p.2
  | _, _, .nil, p, h => by cases h
  | _, _, .cons f t, p, h => by
    rw [List.zip_cons_cons] at h
    rcases List.mem_cons.mp h with rfl | h
    · exact f
    · exact paired_zip t p h
theorem zip_fst {α β : Type} {F : α → β → Prop} : ∀ {l : List α} {m : List β}, Paired F l m → (l.zip m).map (·.1) = l ∧ (l.zip m).map (·.2) = m
  | _, _, .nil => ⟨rfl, rfl⟩
  | _, _, .cons f t => by
    obtain ⟨h1, h2⟩ := zip_fst t
    rw [List.zip_cons_cons, List.map_cons, List.map_cons, h1, h2]
    exact ⟨rfl, rfl⟩
def DeedS (K : PySem.W.Frag) (H H' : Hp) (x : V) : Prop := ∃ dd p, x = .ref p ∧ DeedOk dd ∧ SqT K H' p (Deed.tup dd) ∧ Same H H'
end Vw
namespace Vw
open PySem PySem.Spec PyProof.Rows L2
local macro_rules | `(tactic| walk_at "rd") => `(tactic| simp only [tSeq, tNext, tIfS, tAsg, tRet, tRetN, tDrop, tVar, tC, tOp, tUn, tTest, tB, tAnd, tOr, tNot, tAndV, tOrV, tNotV, tIf, tChain, tCB, tCons, tNil, tCall, tMeth, tMake, tFld, sFld, tTup, tLst, tTupS, tLstS, tDNewKS, tDNewTS, tTold, tCmp, t2I, tIsN, tNotN, tPar, gName, gNil, gCons, gTup, gSub, rI0, rU, rEq, rNe, tDGet, tDIn, tDNotIn, sDPut, tDNewK, tDGet1, tDGet2, tDPop1, tDPop2, tBM, tBM0, tM0, tM1, tSl, tPart, tNoPart, tBreak, tCont, tThru, L2.start, List.map_cons, List.map_nil, List.length_cons, List.length_nil, List.cons_append, List.nil_append, List.append_nil, List.replicate_succ, List.replicate_zero, Nat.reduceAdd, Nat.reduceSub, Nat.zero_add, List.getElem?_cons_zero, List.getElem?_cons_succ, List.set_cons_zero, List.set_cons_succ, wipe, cxOf_K, tYes, List.cons.injEq, and_self, Option.some.injEq, V.int.injEq, V.bl.injEq, V.ref.injEq, V.str.injEq, exists_eq_left', exists_eq_left, exists_and_left, and_assoc, true_and, and_true, if_true, if_false, ite_true, ite_false, Bool.not_true, Bool.not_false, Bool.false_eq_true, reduceIte])
def spLaw (K : PySem.W.Frag) : Sp := fun vs H Q _ => ∃ (a : Addr) (ns : List Int), vs = [.ref a] ∧ SqL K H a (ns.map V.int) ∧ ns.length ≤ 63 ∧ (∀ z ∈ ns, z.natAbs < 2 ^ bigC) ∧ LamX.Tabs (tabs K) H ∧ ∀ H', Q (.bl true) H'
/-- behind j deeds -/
structure At66 (K : PySem.W.Frag) (H0 H : Hp) (G : GLay) (O : OLay) (sl : Addr) (Ss : List OLay) (j : Nat) : Prop where
  st : ST K H0 H G O sl Ss
  ew : G.L.wd = O.wd
  sd : Stands (Ss.map OLay.wd) G.ds G.L.wd
  fi : Fine G.L.wd j
  ld : G.ds.length ≤ j
  sz : Ss.length ≤ j + 1
def Bef (K : PySem.W.Frag) (H : Hp) (ds : List Deed) (t : Nat) (x : V) : Prop := (t = 0 ∧ x = .non) ∨ ∃ L : Lay, x = .ref L.p ∧ WoodAt K H L ∧ 1 ≤ t ∧ L.wd = asOfM ⟨[], 0, 0⟩ ds ((t : Int) - 1)
section
variable {P : Program} {w : World} {K : PySem.W.Frag} {mg : Str → Option Value} {base : Heap}
abbrev N_law : List Str := ["script", "k", "more", "ledger", "own", "stands", "j", "before", "time", "bad", "here", "deed", "due", "wood", "clock", "stand"]
theorem sc_law : FnScope N_law ["script"] (defScope s_law) := ⟨rfl, rfl, rfl, by decide +kernel, rfl, by decide +kernel, by decide +kernel⟩
theorem be_law : BindEq "law" "law" s_law ["script"] := fun _ _ _ _ _ _ us hl => match us, hl with | [_], _ => rfl
theorem D_law {fd : FuncData} (F : FunD K "law" "law" (defArgs s_law) (defBody s_law) (defScope s_law) [] [] (He.ga K "law") fd) (T : Txt K mg base) (TD : TxtD K w) : FnOk P w K mg base (L2N.CX P w) 25 (He.ga K "law") fd ["script"] (spLaw K) := by
  refine fn_defC F sc_law (fun vs H Q E h => ?_) (fun cdv A outer s H vs Q E hcd hr h => ?_)
  · obtain ⟨a, ns, rfl, _⟩ := h
    rfl
  · obtain ⟨a, ns, rfl, hs, hl, hz, hT, q⟩ := h
    refine ⟨_, (pss_cons (ps_for ownE rfl (pi_range1 (by rfl) T.b_range (pa_cons (pe_callB (call_max2 rfl) (by rfl) T.b_max (by decide +kernel) (pa_cons pe_int (pa_cons (pe_callB (call_min2 rfl) (by rfl) T.b_min (by decide +kernel) (pa_cons pe_int (pa_cons (pe_callB call_len_seq (by rfl) T.b_len (by decide +kernel) (pa_cons (pv 0) pa_nil)) pa_nil))) pa_nil))) pa_nil)) (pg_name (i := 1) sc_law.nd rfl (Or.inl rfl))
      (pss_cons (ps_set (i := 2) sc_law.nd rfl (Or.inl rfl) (pe_cd (D__law_drawn T) (by exact hr.mono (by first | decide | omega)) T.g__law_drawn passE (pa_cons (pe_cd (D__law_cell T) (by exact hr.mono (by first | decide | omega)) T.g__law_cell passE (pa_cons (pv 0) (pa_cons (pv 1) pa_nil))) (pa_cons (pv 1) pa_nil))))
      (pss_cons (ps_asg (pe_tupS (pa_cons (pe_mk0 T.c_Ledger.m (D_Ledger___init__ T) (by exact hr.mono (by first | decide | omega)) T.c_Ledger.g passE) (pa_cons (pe_cd0 (D__law_own T) (by exact hr.mono (by first | decide | omega)) T.g__law_own passE) pa_nil))) (pg_tup (n := 2) (by rfl) (pgs_cons (pg_name (i := 3) sc_law.nd rfl (Or.inr rfl)) (pgs_cons (pg_name (i := 4) sc_law.nd rfl (Or.inl rfl)) pgs_nil))))
      (pss_cons (ps_set (i := 5) sc_law.nd rfl (Or.inl rfl) (pe_lstS (pa_cons (pe_tupS (pa_cons pe_int (pa_cons (pe_cd (D__law_own_copy T) (by exact hr.mono (by first | decide | omega)) T.g__law_own_copy passE (pa_cons (pv 4) pa_nil)) pa_nil))) pa_nil)))
      (pss_cons (ps_for ownE rfl (pi_range1 (by rfl) T.b_range (pa_cons (pe_op op_add pe_int (pe_op op_mod (pv 2) pe_int)) pa_nil)) (pg_name (i := 6) sc_law.nd rfl (Or.inl rfl))
      (pss_cons (ps_set (i := 10) sc_law.nd rfl (Or.inl rfl) (pe_cd (D__law_drawn T) (by exact hr.mono (by first | decide | omega)) T.g__law_drawn passE (pa_cons (pv 2) (pa_cons (pe_op op_add pe_int (pv 6)) pa_nil))))
      (pss_cons (ps_set (i := 11) sc_law.nd rfl (Or.inr rfl) (pe_cd (D__law_deed T) (by exact hr.mono (by first | decide | omega)) T.g__law_deed passE (pa_cons (pv 10) (pa_cons (pv 4) pa_nil))))
      (C8.pss_cut (ps_if (pt_cmpR op_eq (pe_op op_mod (pe_op op_fdivW (pv 10) (pe_op op_pow pe_int pe_int)) pe_int) pe_int (nomark _)) (pss_one (ps_set (i := 11) sc_law.nd rfl (Or.inr rfl) (pe_tupS (pa_cons pe_str (pa_cons (pe_op op_mod (pe_op op_fdivW (pv 10) pe_int) pe_int) (pa_cons pe_str pa_nil)))))) pss_nil)
      (C8.pss_cut (ps_if (pt_cmpR op_eq (pe_ix ix_tup (pv 11) pe_int (fun _ _ => rfl)) pe_str (nomark _)) (pss_one (ps_set (i := 11) sc_law.nd rfl (Or.inr rfl) (pe_tupS (pa_cons pe_str (pa_cons (pe_op op_mod (pe_ix ix_tup (pv 11) pe_int (fun _ _ => rfl)) pe_int) (pa_cons pe_str pa_nil)))))) pss_nil)
      (pss_cons (ps_set (i := 12) sc_law.nd rfl (Or.inl rfl) (pe_cd (D__law_act T) (by exact hr.mono (by first | decide | omega)) T.g__law_act passE (pa_cons (pv 4) (pa_cons (pv 11) pa_nil))))
      (pss_cons (ps_if (pt_ned (pe_tld (k := 12) (x := "law") T hcd T.tb_law (by exact hr.mono (by first | decide | omega)) (LamX.lamS_by (by decide +kernel)) rfl (fun _ _ _ _ _ => rfl) (fun A2 outer2 s2 H2 E2 f2 c2 hr => by exact (pe_md (pv 3) T.c_Ledger.c T.m_Ledger_do (D_Ledger_do T TD) (by exact hr.mono (by first | decide | omega)) passL (pa_cons (pe_cd (D__law_as_ledger T) (by exact hr.mono (by first | decide | omega)) T.g__law_as_ledger passL (pa_cons (pv 11) pa_nil)) pa_nil)))) (pv 12) (by exact hr.units)) (pss_one (ps_ret pe_bl)) pss_nil)
      (pss_one (ps_expr (pe_bm PySem.F.plainAttrs_list PySem.F.slot_list_append PySem.F.type_list_append mt_append (pv 5) (pa_cons (pe_tupS (pa_cons (pe_dg (pv 4) pe_str (by exact hu_of hr)) (pa_cons (pe_cd (D__law_own_copy T) (by exact hr.mono (by first | decide | omega)) T.g__law_own_copy passE (pa_cons (pv 4) pa_nil)) pa_nil))) pa_nil)))))))))))
      (pss_cons (ps_set (i := 7) sc_law.nd rfl (Or.inl rfl) pe_non)
      (pss_cons (ps_for ownE rfl (pi_range1 (by rfl) T.b_range (pa_cons (pe_op op_add (pe_dg (pv 4) pe_str (by exact hu_of hr)) pe_int) pa_nil)) (pg_name (i := 8) sc_law.nd rfl (Or.inr rfl))
      (pss_cons (ps_set (i := 12) sc_law.nd rfl (Or.inl rfl) (pe_ix ix_list (pe_lc (own := [("clock", 14), ("stand", 15)]) (g := gTup K 2 (gCons (gName 14) (gCons (gName 15) gNil))) rfl sc_law.nd (pi_list (pv 5)) (blkOk_by (N := N_law) (sc := defScope s_law) (by decide +kernel)) (fun _ _ _ _ _ => by exact (pg_tupK K (by rfl) (pgs_cons (pg_name (i := 14) sc_law.nd rfl (Or.inl rfl)) (pgs_cons (pg_name (i := 15) sc_law.nd rfl (Or.inl rfl)) pgs_nil)))) (fun _ _ _ _ _ => by exact (pts_one (pt_cmpR op_le (pv 14) (pv 8) (nomark _)))) (fun _ _ _ _ _ => by exact (pv 15))) (pe_un un_neg pe_int) (fun _ _ => rfl)))
      (pss_cons (ps_set (i := 13) sc_law.nd rfl (Or.inl rfl) (pe_tld (k := 12) (x := "law") T hcd T.tb_law (by exact hr.mono (by first | decide | omega)) (LamX.lamS_by (by decide +kernel)) rfl (fun _ _ _ _ _ => rfl) (fun A2 outer2 s2 H2 E2 f2 c2 hr => by exact (pe_md (pv 3) T.c_Ledger.c T.m_Ledger_as_of (D_Ledger_as_of T) (by exact hr.mono (by first | decide | omega)) passL (pa_cons (pv 8) pa_nil)))))
      (pss_cons (ps_if (PW.pt (pw_or (pt_not (pt_val (pe_cd (D__law_is_whole T) (by exact hr.mono (by first | decide | omega)) T.g__law_is_whole passE (pa_cons (pv 13) (pa_cons (pv 12) pa_nil))))) (pw_or1 (pt_cmpR op_gt (pe_md0 (pv 13) T.c_Wood.c T.m_Wood_now (D_Wood_now T) (by exact hr.mono (by first | decide | omega)) passE) (pv 8) (nomark _))))) (pss_one (ps_ret pe_bl)) pss_nil)
      (pss_cons (ps_if (PW.pt (pw_and (pt_cmpR op_notN (pv 7) pe_non (nomark _)) (pw_and1 (pt_cmpR op_notBl (pe_cd (D_comes_of T) (by exact hr.mono (by first | decide | omega)) T.g_comes_of passE (pa_cons (pv 7) (pa_cons (pv 13) pa_nil))) pe_bl (nomark _))))) (pss_one (ps_ret pe_bl)) pss_nil)
      (pss_one (ps_set (i := 7) sc_law.nd rfl (Or.inl rfl) (pv 13))))))))
      (pss_cons (ps_if (pt_not (pt_val (pe_cd (D__law_is_whole T) (by exact hr.mono (by first | decide | omega)) T.g__law_is_whole passE (pa_cons (pe_md0 (pv 3) T.c_Ledger.c T.m_Ledger_whole (D_Ledger_whole T) (by exact hr.mono (by first | decide | omega)) passE) (pa_cons (pv 4) pa_nil))))) (pss_one (ps_ret pe_bl)) pss_nil)
      (pss_one (ps_for ownE rfl (pi_list (pe_lstS (pa_cons (pe_un un_neg pe_int) (pa_cons (pe_op op_add (pe_dg (pv 4) pe_str (by exact hu_of hr)) pe_int) (pa_cons pe_non (pa_cons pe_bl (pa_cons pe_str pa_nil))))))) (pg_name (i := 9) sc_law.nd rfl (Or.inr rfl))
      (pss_one (ps_if (pt_ned (pe_tld (k := 12) (x := "law") T hcd T.tb_law (by exact hr.mono (by first | decide | omega)) (LamX.lamS_by (by decide +kernel)) rfl (fun _ _ _ _ _ => rfl) (fun A2 outer2 s2 H2 E2 f2 c2 hr => by exact (pe_md (pv 3) T.c_Ledger.c T.m_Ledger_as_of (D_Ledger_as_of T) (by exact hr.mono (by first | decide | omega)) passL (pa_cons (pv 9) pa_nil)))) (pe_tupS (pa_cons pe_str (pa_cons pe_str pa_nil))) (by exact hr.units)) (pss_one (ps_ret pe_bl)) pss_nil))))))))))))
      (pss_one (ps_ret pe_bl))), ?_⟩
    walk_at "rd"
    generalize hm : max (1 : Int) (min 2 ns.length) = mx
    have mx1 : mx ≤ 2 := by omega
    have z9 : (100000 : Nat) < sizeLine := by rw [sizeLine_eq]; omega
    refine forR2 (n := mx) (fun R h => ?_) (by omega) (fun _ σ' H' => (∃ xs : List (Option V), σ' = some (.ref a) :: xs ∧ xs.length = 15) ∧ SqL K H' a (ns.map V.int) ∧ LamX.Tabs (tabs K) H') ⟨⟨_, rfl, rfl⟩, hs, hT⟩ (fun k σ1 H1 D1 hk h1 nx1 ct1 rt1 _ => ?_) (fun σ1 H1 h1 => q H1)
    · walk_at "rd"
      refine ⟨_, .inl hs, ?_⟩
      rw [List.length_map]
      have e : (if (if (ns.length : Int) < 2 then (ns.length : Int) else 2) > 1 then (if (ns.length : Int) < 2 then (ns.length : Int) else 2) else 1) = mx := by
        rw [← hm]
        split <;> split <;> omega
      rw [e]
      exact h
    · obtain ⟨⟨xs, rfl, hxs⟩, hs1, hT1⟩ := h1
      match xs, hxs with
      | [x1, x2, x3, x4, x5, x6, x7, x8, x9, x10, x11, x12, x13, x14, x15], _ =>
      walk_at "rd"
      have kb : ((k : Nat) : Int).natAbs < 2 ^ 200 := Nat.lt_trans (show ((k : Nat) : Int).natAbs < 2 ^ 10 by omega) (by decide)
      refine ⟨a, ns, k, rfl, hs1, by omega, by omega, by omega, fun H2 s2 => ⟨_, _, rfl, cell_abs (by omega) (by omega) hz, kb, ?_⟩⟩
      have mr := drawM_range (cellM ns k) k
      generalize drawM (cellM ns k) k = more at mr ⊢
      dsimp only
      intro lp ldx nlp nldx dne
      refine ⟨lp, ldx, H2, rfl, upd_same, nlp, fun b o e => by rw [upd_ne (ne_of_none e nlp), upd_ne (ne_of_none e nldx)]; exact e, fun G3 H3 ep3 ed3 et3 ew3 lg3 s3 nf3 => ⟨rfl, rfl, fun po do_ H4 np4 nd4 s4 B4 => ⟨by omega, fun t5 H5 n5 s5 e5 => ⟨t5, rfl, _, .inl (.inl e5), rfl, _, _, rfl, _, _, rfl, rfl, ?_⟩⟩⟩⟩
      have hT2 := hT1.ext s2
      have P5 : LP K H2 H5 G3 ⟨po, do_, [], 0, 0⟩ := by
        have P4 : LP K H2 H4 G3 ⟨po, do_, [], 0, 0⟩ := by
          refine ⟨lg3.same s4, B4, fun b hb hO => ?_, LamX.ExtN.of (s3.trans s4), fun b hb o e => ?_, hT2.ext (s3.trans s4)⟩
          · obtain ⟨o, ho, _⟩ := lg3.live hb
            have hO : b = po ∨ b = do_ := by simpa [footO] using hO
            rcases hO with rfl | rfl
            · rw [np4] at ho; cases ho
            · rw [nd4] at ho; cases ho
          · rcases hb with hb | hb
            · rw [nf3 b hb] at e; cases e
            · have hb : b = po ∨ b = do_ := by simpa [footO] using hb
              rcases hb with rfl | rfl
              · rw [s3.free np4] at e; cases e
              · rw [s3.free nd4] at e; cases e
        exact P4.same s5
      refine ⟨⟨po, do_, [], 0, 0⟩, rfl, P5.B, fun S6 H6 nS6 B6 w6 s6 => ⟨by omega, fun q7 H7 n7 s7 e7 => ⟨by omega, fun sl H8 n8 s8 e8 => ?_⟩⟩⟩
      have s28 : Same H2 H8 := (((s3.trans s4).trans s5).trans s6).trans (s7.trans s8)
      have P8 := ((P5.same s6).same s7).same s8
      have A8 : At66 K H2 H8 G3 ⟨po, do_, [], 0, 0⟩ sl [S6] 0 := by
        refine ⟨⟨P8, ⟨[q7], e8, .cons ⟨.inl (.inl (by rw [s8 _ _ e7]; have := congrArg Wd.clock w6; rw [show S6.clock = 0 from this])), (B6.same s7).same s8⟩ .nil⟩, fun S hS b hb hO => ?_, fun S hS b hb hg => ?_, fun c => ?_, fun o e => ?_⟩, ew3, ?_, by rw [ew3]; exact fine0, by rw [ed3]; exact Nat.le_refl _, Nat.le_refl _⟩
        · cases List.mem_singleton.mp hS
          obtain ⟨kk, hk⟩ := footO_obj P5.B hO
          rw [nS6 b hb] at hk
          cases hk
        · cases List.mem_singleton.mp hS
          obtain ⟨o, ho, _⟩ := P5.lg.live hg
          rw [nS6 b hb] at ho
          cases ho
        · obtain ⟨o, ho, _⟩ := ((P5.same s6).same s7).lg.live c
          rw [n8] at ho
          cases ho
        · rw [none_back ((((s3.trans s4).trans s5).trans s6).trans s7) n8] at e
          cases e
        · rw [ed3, ew3]
          show Stands [S6.wd] [] _
          rw [w6]
          exact stands0
      have m40 := Int.emod_nonneg more (show (40 : Int) ≠ 0 by decide)
      have m40' := Int.emod_lt_of_pos more (show (0 : Int) < 40 by decide)
      generalize hJ : 6 + more % 40 = nj
      have nj0 : 0 ≤ nj ∧ nj ≤ 45 := by omega
      refine forR2 (n := nj) (fun R h => ?_) (by omega) (fun j σ' H' => ∃ (G : GLay) (O : OLay) (Ss : List OLay) (y6 y10 y11 y12 : Option V), σ' = [some (.ref a), some (.int k), some (.int more), some (.ref lp), some (.ref po), some (.ref sl), y6, x7, x8, x9, y10, y11, y12, x13, x14, x15] ∧ G.p = lp ∧ O.p = po ∧ At66 K H2 H' G O sl Ss j)
        ⟨G3, _, _, _, _, _, _, rfl, ep3, rfl, A8⟩ (fun j σ2 H9 D2 hj h9 nx2 ct2 rt2 _ => ?_) (fun σ2 H9 h9 => ?_)
      · walk_at "rd"
        refine use_mod ⟨_, rfl, ?_⟩
        rw [hJ]
        exact h
      · obtain ⟨G, O, Ss, y6, y10, y11, y12, rfl, rfl, rfl, A9⟩ := h9
        walk_at "rd"
        refine ⟨_, _, rfl, more_abs mr, Nat.lt_trans (show (10 + (j : Int)).natAbs < 2 ^ 10 by omega) (by decide), ?_⟩
        have hr3 := drawM_range more (10 + j)
        generalize drawM more (10 + j) = here at hr3 ⊢
        refine ⟨O, here, rfl, hr3, A9.st.P.B, A9.fi.names A9.ew, fun dd dp H10 okd n10 s10 e10 => ?_⟩
        have nx : nameZ "x" = true := by decide +kernel
        refine ⟨fun σ' H' => ∃ x : V, σ' = [some (.ref a), some (.int k), some (.int more), some (.ref G.p), some (.ref O.p), some (.ref sl), some (.int j), x7, x8, x9, some (.int here), some x, y12, x13, x14, x15] ∧ DeedS K H9 H' x, ?_, ?_⟩
        · walk_at "rd"
          refine use_pow (use_div (use_mod ⟨rfl, ?_⟩))
          by_cases c : here / 2 ^ (Int.toNat 50) % 4 = 0
          · rw [decide_eq_true (show V.int (here / 2 ^ (Int.toNat 50) % 4) = V.int 0 by rw [c])]
            have h0 := Int.emod_nonneg (here / 64) (show (4 : Int) ≠ 0 by decide)
            have h1 := Int.emod_lt_of_pos (here / 64) (show (0 : Int) < 4 by decide)
            exact iteT (use_div (use_mod ⟨by omega, fun t11 H11 n11 s11 e11 => ⟨.tick (here / 64 % 4) "x", t11, rfl, deed_tick (by omega) (by omega) nx, .inl (.inl e11), s10.trans s11⟩⟩))
          · rw [decide_eq_false (show ¬ V.int (here / 2 ^ (Int.toNat 50) % 4) = V.int 0 from fun z => c (V.int.inj z))]
            exact iteF ⟨dd, dp, rfl, okd, .inl (.inl e10), s10⟩
        · rintro σ' H11 ⟨x, rfl, d1, p1, rfl, ok1, t1, s11⟩
          refine ⟨fun σ' H' => ∃ x : V, σ' = [some (.ref a), some (.int k), some (.int more), some (.ref G.p), some (.ref O.p), some (.ref sl), some (.int j), x7, x8, x9, some (.int here), some x, y12, x13, x14, x15] ∧ DeedS K H9 H' x, ?_, ?_⟩
          · walk_at "rd"
            have go : ∀ {d : Deed} {z : String} {r : List V}, d.tup = .str (Str.ofString z) :: r → z ≠ "tick" → d1 = d → DeedS K H9 H11 (.ref p1) := fun _ _ e => ⟨d1, p1, rfl, ok1, t1, s11⟩
            cases d1 with
            | tick kk who =>
              refine ⟨p1, _, 0, .str "tick", rfl, rfl, t1, rfl, rfl, ?_⟩
              rw [dq1]
              have h0 := Int.emod_nonneg kk (show (9 : Int) ≠ 0 by decide)
              have h1 := Int.emod_lt_of_pos kk (show (0 : Int) < 9 by decide)
              exact iteT ⟨p1, _, 1, .int kk, rfl, rfl, t1, rfl, use_mod ⟨by omega, fun t12 H12 n12 s12 e12 => ⟨.tick (kk % 9) "x", t12, rfl, deed_tick (by omega) (by omega) nx, .inl (.inl e12), s11.trans s12⟩⟩⟩
            | say n who text =>
              refine ⟨p1, _, 0, .str "say", rfl, rfl, t1, rfl, rfl, ?_⟩
              rw [dq (show "say" ≠ "tick" by decide)]
              exact iteF ⟨_, p1, rfl, ok1, t1, s11⟩
            | change n who text =>
              refine ⟨p1, _, 0, .str "change", rfl, rfl, t1, rfl, rfl, ?_⟩
              rw [dq (show "change" ≠ "tick" by decide)]
              exact iteF ⟨_, p1, rfl, ok1, t1, s11⟩
            | strike n who =>
              refine ⟨p1, _, 0, .str "strike", rfl, rfl, t1, rfl, rfl, ?_⟩
              rw [dq (show "strike" ≠ "tick" by decide)]
              exact iteF ⟨_, p1, rfl, ok1, t1, s11⟩
            | vote n who way =>
              refine ⟨p1, _, 0, .str "vote", rfl, rfl, t1, rfl, rfl, ?_⟩
              rw [dq (show "vote" ≠ "tick" by decide)]
              exact iteF ⟨_, p1, rfl, ok1, t1, s11⟩
          · rintro σ' H12 ⟨x, rfl, d2, p2, rfl, ok2, t2, s12⟩
            walk_at "rd"
            have S12 := A9.st.same s12
            refine use_actP S12 (A9.ew ▸ A9.fi) (by omega) ok2 t2 fun v H13 O13 S13 eo13 ew13 t13 d13 => ?_
            rw [← A9.ew] at ew13 d13
            refine ⟨S13.P.T, fun H14 x14' T14 => ?_⟩
            have S14 := S13.ext x14' T14
            refine ⟨_, _, S14.P.lg.top, fg_no _ (by decide) (by decide) (by decide), p2, d2, rfl, (LK.ext x14').sqt t13, fun q15 H15 n15 s15 t15 => ?_⟩
            have S15 := S14.same s15
            have ld := A9.ld
            have sz := A9.sz
            have dok : ∀ d ∈ G.ds, DeedOk d := fun d hd => A9.st.P.lg.ok d (List.mem_append_left _ hd)
            have fin : ∀ {H' : Hp} {G' : GLay}, ST K H2 H' G' O13 sl Ss → G'.p = G.p → G'.L.wd = O13.wd → Stands (Ss.map OLay.wd ++ [O13.wd]) G'.ds G'.L.wd → Fine G'.L.wd (j + 1) → G'.ds.length ≤ j + 1 →
                tyV K "list" (V.ref sl) H' ∧ ∃ x, DGet H' O.p (.str (Str.ofString "clock")) (some x) ∧ spOwnCopy K [.ref O.p] H' (fun x_1 H1 => 2 ≤ sizeLine ∧ New (.tup [x, x_1]) H1 fun x H1 => rAppend (.ref sl) [x] H1 fun x H1 =>
                  D2.nx [some (V.ref a), some (V.int k), some (V.int more), some (V.ref G.p), some (V.ref O.p), some (V.ref sl), some (V.int j), x7, x8, x9, some (V.int here), some (V.ref p2), some v, x13, x14, x15] H1) E := by
              intro H' G' S' ep ew sd fi ld'
              obtain ⟨qs0, el0, _⟩ := S'.st
              refine ⟨.inl ⟨rfl, _, SqL.of el0⟩, .int O13.clock, eo13 ▸ g_clock S'.P.B.rd.top, O13, by rw [eo13], S'.P.B, fun N H17 nN BN wN s17 => ⟨by omega, fun q18 H18 n18 s18 e18 => ?_⟩⟩
              have S18 := (S'.same s17).same s18
              obtain ⟨qs, el, pl⟩ := S18.st
              have lq := pl.length
              have ck : N.clock = O13.clock := congrArg Wd.clock wN
              refine ⟨sl, _, _, rfl, rfl, el, by rw [List.length_map]; omega, nx2 _ _ ⟨G', O13, Ss ++ [N], _, _, _, _, rfl, ep, eo13, ⟨S18.put (BN.same s18) (fun b hb c => ?_) (fun b hb c => ?_) (.inl (.inl (by rw [e18, ck]))) el pl, ew, ?_, fi, ld', by rw [List.length_append, List.length_singleton]; omega⟩⟩⟩
              · obtain ⟨kk, hk⟩ := footO_obj S'.P.B c
                rw [nN b hb] at hk
                cases hk
              · obtain ⟨o, ho, _⟩ := S'.P.lg.live c
                rw [nN b hb] at ho
                cases ho
              · rw [List.map_append, List.map_singleton, wN]
                exact sd
            refine ⟨G, _, rfl, S15.P.lg, by omega, .inl ⟨q15, d2, rfl, t15, ok2, fun u M e' G' H16 ed et ewd lg gs => ?_, fun e he H16 s16 => ?_⟩⟩
            · have ex : v = u := by
                unfold actD at d13
                rw [e'] at d13
                rcases act_val e' with rfl | ⟨i, rfl⟩
                · cases d13
                  rfl
                · cases d13
                  rfl
              subst ex
              have dv : Dp K H16 v (actD G.L.wd d2) := by
                unfold actD
                rw [e']
                rcases act_val e' with rfl | ⟨i, rfl⟩
                · exact .non
                · exact .int i
              have eM : O13.wd = M := by
                rw [ew13]
                unfold actW
                rw [e']
              refine use_neD dv dv (shaped_act _ _) (shaped_act _ _) ⟨_, rfl, ?_⟩
              rw [eqv_act]
              refine iteF (fin (S15.step gs lg) gs.p (by rw [ewd, eM]) ?_ (by rw [ewd]; exact A9.fi.act ok2 e') (by rw [ed, List.length_append, List.length_singleton]; omega))
              rw [ed, ewd, eM]
              exact A9.sd.good dok ok2 e'
            · have sh := shaped_act G.L.wd d2
              have ev := eqv_act G.L.wd d2
              have d13' := d13
              unfold actD at sh ev d13'
              rw [he] at sh ev d13'
              have eM : O13.wd = G.L.wd := by
                rw [ew13]
                unfold actW
                rw [he]
              refine told_bad (by cases e <;> decide +kernel) fun r17 H17 s17 e17 => use_neD (dp_refu e17) (dp_lk (LK.same (s16.trans s17)) (dp_lk (LK.same s15) (dp_lk (LK.ext x14') d13'))) sh sh ⟨_, rfl, ?_⟩
              rw [show PyData.eqv (.tuple [.str (Str.ofString "refused"), .str e.cls]) (refD e.cls) = true from ev]
              refine iteF (fin ((S15.same s16).same s17) rfl eM.symm ?_ (A9.fi.mono (by omega)) (by omega))
              rw [eM]
              exact A9.sd.bad dok
      · obtain ⟨G, O, Ss, y6, y10, y11, y12, rfl, rfl, rfl, A9⟩ := h9
        walk_at "rd"
        have f9 := A9.fi.mono (show nj.toNat ≤ 45 by omega)
        have ck0 : 0 ≤ G.L.clock := f9.k0
        have ckm : G.L.clock ≤ 1000 * (45 : Nat) := f9.km
        have ck : O.clock = G.L.clock := (congrArg Wd.clock A9.ew).symm
        have ld := A9.ld
        have sz := A9.sz
        have dok : ∀ d ∈ G.ds, DeedOk d := fun d hd => A9.st.P.lg.ok d (List.mem_append_left _ hd)
        have fA : ∀ t, Fine (asOfM ⟨[], 0, 0⟩ G.ds t) (0 + G.ds.length) := fun t => asOf_fine fine0 dok A9.sd.pl
        have nofw : ∀ {L : Lay} {m : String}, m ≠ "sayings" → m ≠ "came" → m ≠ "clock" → (woodFs L.d L.came L.clock).lookup (Str.ofString m) = none := fun h1 h2 h3 => fw_no _ _ _ h1 h2 h3
        refine forR2 (n := G.L.clock + 1) (fun R h => ?_) (by omega) (fun t σ' H' => ∃ (y7 : V) (y8 y12 y13 : Option V), σ' = [some (.ref a), some (.int k), some (.int more), some (.ref G.p), some (.ref O.p), some (.ref sl), y6, some y7, y8, x9, y10, y11, y12, y13, x14, x15] ∧ ST K H2 H' G O sl Ss ∧ Bef K H' G.ds t y7)
          ⟨.non, _, _, _, rfl, A9.st, .inl ⟨rfl, rfl⟩⟩ (fun t σ2 H10 D2 ht h10 nx2 ct2 rt2 _ => ?_) (fun σ2 H10 h10 => ?_)
        · walk_at "rd"
          refine ⟨_, g_clock A9.st.P.B.rd.top, _, rfl, ?_⟩
          rw [ck]
          exact h
        · obtain ⟨y7, y8, y12, y13, rfl, S10, bf⟩ := h10
          walk_at "rd"
          obtain ⟨qs, el, pl⟩ := S10.st
          obtain ⟨zf, zs⟩ := zip_fst pl
          have lq := pl.length
          have zl : (qs.zip Ss).length = Ss.length := by rw [← congrArg List.length zs, List.length_map]
          refine lcL (l := qs.zip Ss) (fun p => V.ref p.1) (fun p => if p.2.clock ≤ (t : Int) then some (.ref p.2.p) else none) (fun R' h => ?_) (by omega) (fun p H' hp s' N1 N0 h1 h0 => ?_) (fun D11 H11 nD s11 eD => ?_)
          · walk_at "rd"
            refine h sl H10 (Same.refl _) (SqL.of ?_)
            rw [el, ← zf, List.map_map]
            simp [zf]
          · walk_at "rd"
            obtain ⟨hq, _⟩ := paired_zip pl p hp
            refine ⟨_, Same.tup s' hq, rfl, _, _, rfl, _, _, rfl, rfl, _, rfl, ?_⟩
            by_cases c : p.2.clock ≤ (t : Int)
            · rw [decide_eq_true c]
              exact iteT (h1 _ _ (Same.refl _) (if_pos c))
            · rw [decide_eq_false c]
              exact iteF (h0 _ (Same.refl _) (if_neg c))
          · have ef : (qs.zip Ss).filterMap (fun p => if p.2.clock ≤ (t : Int) then some (V.ref p.2.p) else none) = (Ss.filter fun S => decide (S.clock ≤ (t : Int))).map fun S => V.ref S.p := by
              rw [filterMap_if]
              have := congrArg (fun l : List OLay => (l.filter fun S => decide (S.clock ≤ (t : Int))).map fun S => V.ref S.p) zs
              rw [List.filter_map, List.map_map] at this
              exact this
            rw [ef] at eD
            obtain ⟨S, hS, wS, last⟩ := last_stand (A9.sd.at_ t (by omega))
            refine ⟨D11, _, -1, .ref S.p, rfl, rfl, SqL.of eD, atI_neg1 (by rw [List.getLast?_map, last]; rfl), ?_⟩
            have S11 := S10.same s11
            refine ⟨S11.P.T, fun H12 x12' T12 => ?_⟩
            have S12 := S11.ext x12' T12
            refine ⟨_, _, S12.P.lg.top, fg_no _ (by decide) (by decide) (by decide), G, _, .int t, rfl, S12.P.lg, .int _, fun t' et hc L13 H13 nf13 W13 w13 s13 => ?_, fun hc => ?_⟩
            case refine_2 =>
              simp [isCount] at hc
              omega
            cases et
            have fM := fA t
            refine ⟨L13, S, _, rfl, pair_old (S12.st.own S hS) nf13 W13 s13, w13.trans wS.symm, w13 ▸ fM, fun H14 s14 => ⟨_, rfl, iteF ?_⟩⟩
            have W14 := W13.same s14
            refine ⟨_, rfl, _, _, W14.top, nofw (by decide) (by decide) (by decide), L13, rfl, W14, _, rfl, ?_⟩
            have cl : L13.clock ≤ t := by
              have := asOf_clock (t := t) dok A9.sd.pl (show (0 : Int) ≤ t by omega)
              rw [← w13] at this
              exact this
            rw [decide_eq_false (by omega)]
            refine iteF ?_
            have S14 := (S12.same s13).same s14
            have fin : ∀ {H' : Hp}, Same H14 H' → D2.nx [some (V.ref a), some (V.int k), some (V.int more), some (V.ref G.p), some (V.ref O.p), some (V.ref sl), y6, some (V.ref L13.p), some (V.int t), x9, y10, y11, some (V.ref S.p), some (V.ref L13.p), x14, x15] H' := fun {H'} s' => nx2 _ _ ⟨.ref L13.p, _, _, _, rfl, S14.same s', .inr ⟨L13, rfl, W14.same s', by omega, by rw [w13, show (((t + 1 : Nat) : Int) - 1) = (t : Int) by omega]⟩⟩
            rcases bf with ⟨_, rfl⟩ | ⟨L7, rfl, W7, t1, w7⟩
            · rw [decide_eq_true rfl]
              exact iteF (fin (Same.refl _))
            · rw [decide_eq_false (by intro z; cases z)]
              refine iteT ⟨L7, L13, rfl, (((W7.same s11).ext x12').same s13).same s14, W14, (w13 ▸ fM).G, (w7 ▸ fA _).nw, (w13 ▸ fM).nw, fun H15 s15 => use_notB ⟨_, rfl, ?_⟩⟩
              rw [comesB_iff.mpr (by rw [w7, w13]; exact comes_times (by omega) fine0 dok A9.sd.pl (by show (0 : Int) ≤ _; omega))]
              exact iteF (fin s15)
        · obtain ⟨y7, y8, y12, y13, rfl, S10, bf⟩ := h10
          walk_at "rd"
          refine ⟨_, _, S10.P.lg.top, fg_no _ (by decide) (by decide) (by decide), G, rfl, S10.P.lg, fun L11 H11 nf11 W11 w11 s11 => ⟨L11, O, _, rfl, pair_old S10.P.B nf11 W11 s11, w11.trans A9.ew, w11 ▸ f9, fun H12 s12 => ⟨_, rfl, iteF ?_⟩⟩⟩
          have S12 := (S10.same s11).same s12
          have memB : Er.number.cls ∈ errs := by decide +kernel
          refine forD2 [.int (-1), .int (G.L.clock + 1), .none, .bool true, .str "0"] (fun R' h => ?_) (fun i σ' H' => ST K H2 H' G O sl Ss ∧ ∃ y9 : Option V, σ' = [some (.ref a), some (.int k), some (.int more), some (.ref G.p), some (.ref O.p), some (.ref sl), y6, some y7, y8, y9, y10, y11, y12, y13, x14, x15])
            (fun H13 s13 => ⟨S12.same s13, _, rfl⟩) (fun i d x σ' H13 D2 hi hd h13 nx2 ct2 rt2 _ => ?_) (fun σ' H13 h13 => ?_)
          · walk_at "rd"
            refine ⟨_, g_clock S12.P.B.rd.top, _, rfl, by omega, fun p13 H13 n13 s13 e13 => h p13 H13 _ s13 (SqL.of e13) ?_⟩
            rw [ck]
            exact .cons (.int _) (.cons (.int _) (.cons .non (.cons (.bl _) (.cons (.str _) .nil))))
          · obtain ⟨S13, y9, rfl⟩ := h13
            walk_at "rd"
            refine ⟨S13.P.T, fun H14 x14' T14 => ?_⟩
            have S14 := S13.ext x14' T14
            have bc : isCount d 0 G.L.clock = false := by
              have := List.mem_of_getElem? hi
              simp only [List.mem_cons, List.not_mem_nil, or_false] at this
              rcases this with rfl | rfl | rfl | rfl | rfl
              · rfl
              · simp [isCount]
                omega
              · rfl
              · rfl
              · rfl
            refine ⟨_, _, S14.P.lg.top, fg_no _ (by decide) (by decide) (by decide), G, _, d, rfl, S14.P.lg, dp_lk (LK.ext x14') hd, fun n e hc => ?_, fun _ H15 s15 => told_bad memB fun r16 H16 s16 e16 => ⟨by omega, fun t17 H17 n17 s17 e17 => refu_ne (s17 _ _ e16) e17 ⟨_, rfl, iteF (nx2 _ _ ⟨((S14.same s15).same s16).same s17, _, rfl⟩ ?_)⟩⟩⟩
            · rw [bc] at hc
              cases hc
            · exact LK.ext (x14'.trans (LamX.ExtN.of ((s15.trans s16).trans s17)))
          · obtain ⟨S13, y9, rfl⟩ := h13
            exact nx1 _ _ ⟨⟨_, rfl, rfl⟩, (LK.ext S13.P.x).seq (s2.seq hs1), S13.P.T⟩
end
end Vw
namespace Vw
open PySem PySem.Spec PyProof.Rows L2
def fa0 : List He.Fa := [.exc "WoodError", .glo "WoodError", .exc "BadName", .glo "BadName", .exc "NoSaying", .glo "NoSaying", .exc "BadText", .glo "BadText", .exc "Full", .glo "Full", .exc "NotYours", .glo "NotYours", .exc "BadNumber", .glo "BadNumber", .exc "BadDeed", .glo "BadDeed", .exc "Nothing", .glo "Nothing", .exc "NotKin", .glo "NotKin", .glo "Saying", .cls "Saying", .mkr "Saying", .noat "Saying" "by", .noat "Saying" "under", .noat "Saying" "text", .noat "Saying" "time", .noat "Saying" "votes", .noat "Saying" "is_struck", .glo "Wood"]
def fa1 : List He.Fa := [.cls "Wood", .mkr "Wood", .noat "Wood" "sayings", .noat "Wood" "came", .noat "Wood" "clock", .glo "Ledger", .cls "Ledger", .mkr "Ledger", .noat "Ledger" "deeds", .noat "Ledger" "taken", .noat "Ledger" "grown", .glo "is_count", .glo "need_name", .glo "need_text", .meth "Saying" "ups", .meth "Saying" "downs", .meth "Saying" "points", .meth "Wood" "now", .meth "Wood" "tick", .meth "Wood" "saying", .meth "Wood" "numbers", .meth "Wood" "deep", .meth "Wood" "say", .meth "Wood" "look", .meth "Wood" "own", .meth "Wood" "change", .meth "Wood" "replies", .meth "Wood" "strike", .meth "Wood" "vote", .meth "Wood" "votes_of"]
def fa2 : List He.Fa := [.meth "Wood" "below", .meth "Wood" "many", .meth "Wood" "standing", .glo "done", .glo "played", .meth "Ledger" "do", .meth "Ledger" "whole", .meth "Ledger" "behind", .meth "Ledger" "as_of", .glo "is_like", .glo "comes_of", .glo "_law_cell", .glo "_law_drawn", .glo "_law_word", .glo "_law_told", .glo "_law_any_name", .glo "_law_any_text", .glo "_law_own", .glo "_law_beneath", .glo "_law_above", .glo "_law_points", .glo "_law_say", .glo "_law_strike", .glo "_law_act", .glo "_law_deed", .glo "_law_like", .glo "_law_one_like", .glo "_law_as_ledger", .glo "_law_own_copy", .glo "_law_is_whole"]
def fa3 : List He.Fa := [.glo "law", .free "ValueError", .free "all", .free "bool", .free "dict", .free "int", .free "isinstance", .free "len", .free "max", .free "min", .free "ord", .free "range", .free "sorted", .free "str", .free "sum", .free "tuple", .str "SMALL" "abcdefghijklmnopqrstuvwxyz", .int "MOST_WORD" 6, .int "MOST_TEXT" 30, .int "MOST_SAYINGS" 60, .int "MOST_DEEP" 8, .int "MOST_TICKS" 1000, .int "BARRED" 37, .glo "SIZES"]
def fa : List He.Fa := fa0 ++ fa1 ++ fa2 ++ fa3
def fn0 : List He.DefD := [⟨("is_count", none), "is_count", "is_count", defArgs s_is_count, defBody s_is_count, defScope s_is_count, [], []⟩, ⟨("need_name", none), "need_name", "need_name", defArgs s_need_name, defBody s_need_name, defScope s_need_name, [], []⟩, ⟨("need_text", none), "need_text", "need_text", defArgs s_need_text, defBody s_need_text, defScope s_need_text, [], []⟩, ⟨("Saying", some "__init__"), "__init__", "Saying.__init__", defArgs s_Saying___init__, defBody s_Saying___init__, defScope s_Saying___init__, [], []⟩, ⟨("Saying", some "ups"), "ups", "Saying.ups", defArgs s_Saying_ups, defBody s_Saying_ups, defScope s_Saying_ups, [], []⟩, ⟨("Saying", some "downs"), "downs", "Saying.downs", defArgs s_Saying_downs, defBody s_Saying_downs, defScope s_Saying_downs, [], []⟩, ⟨("Saying", some "points"), "points", "Saying.points", defArgs s_Saying_points, defBody s_Saying_points, defScope s_Saying_points, [], []⟩, ⟨("Wood", some "__init__"), "__init__", "Wood.__init__", defArgs s_Wood___init__, defBody s_Wood___init__, defScope s_Wood___init__, [], []⟩, ⟨("Wood", some "now"), "now", "Wood.now", defArgs s_Wood_now, defBody s_Wood_now, defScope s_Wood_now, [], []⟩, ⟨("Wood", some "tick"), "tick", "Wood.tick", defArgs s_Wood_tick, defBody s_Wood_tick, defScope s_Wood_tick, [], []⟩, ⟨("Wood", some "saying"), "saying", "Wood.saying", defArgs s_Wood_saying, defBody s_Wood_saying, defScope s_Wood_saying, [], []⟩, ⟨("Wood", some "numbers"), "numbers", "Wood.numbers", defArgs s_Wood_numbers, defBody s_Wood_numbers, defScope s_Wood_numbers, [], []⟩, ⟨("Wood", some "deep"), "deep", "Wood.deep", defArgs s_Wood_deep, defBody s_Wood_deep, defScope s_Wood_deep, [], []⟩, ⟨("Wood", some "say"), "say", "Wood.say", defArgs s_Wood_say, defBody s_Wood_say, defScope s_Wood_say, [], []⟩, ⟨("Wood", some "look"), "look", "Wood.look", defArgs s_Wood_look, defBody s_Wood_look, defScope s_Wood_look, [], []⟩, ⟨("Wood", some "own"), "own", "Wood.own", defArgs s_Wood_own, defBody s_Wood_own, defScope s_Wood_own, [], []⟩, ⟨("Wood", some "change"), "change", "Wood.change", defArgs s_Wood_change, defBody s_Wood_change, defScope s_Wood_change, [], []⟩, ⟨("Wood", some "replies"), "replies", "Wood.replies", defArgs s_Wood_replies, defBody s_Wood_replies, defScope s_Wood_replies, [], []⟩, ⟨("Wood", some "strike"), "strike", "Wood.strike", defArgs s_Wood_strike, defBody s_Wood_strike, defScope s_Wood_strike, [], []⟩, ⟨("Wood", some "vote"), "vote", "Wood.vote", defArgs s_Wood_vote, defBody s_Wood_vote, defScope s_Wood_vote, [], []⟩, ⟨("Wood", some "votes_of"), "votes_of", "Wood.votes_of", defArgs s_Wood_votes_of, defBody s_Wood_votes_of, defScope s_Wood_votes_of, [], []⟩, ⟨("Wood", some "below"), "below", "Wood.below", defArgs s_Wood_below, defBody s_Wood_below, defScope s_Wood_below, [], []⟩, ⟨("Wood", some "many"), "many", "Wood.many", defArgs s_Wood_many, defBody s_Wood_many, defScope s_Wood_many, [], []⟩, ⟨("Wood", some "standing"), "standing", "Wood.standing", defArgs s_Wood_standing, defBody s_Wood_standing, defScope s_Wood_standing, [], []⟩, ⟨("done", none), "done", "done", defArgs s_done, defBody s_done, defScope s_done, [], []⟩, ⟨("played", none), "played", "played", defArgs s_played, defBody s_played, defScope s_played, [], []⟩, ⟨("Ledger", some "__init__"), "__init__", "Ledger.__init__", defArgs s_Ledger___init__, defBody s_Ledger___init__, defScope s_Ledger___init__, [], []⟩, ⟨("Ledger", some "do"), "do", "Ledger.do", defArgs s_Ledger_do, defBody s_Ledger_do, defScope s_Ledger_do, [], []⟩, ⟨("Ledger", some "whole"), "whole", "Ledger.whole", defArgs s_Ledger_whole, defBody s_Ledger_whole, defScope s_Ledger_whole, [], []⟩, ⟨("Ledger", some "behind"), "behind", "Ledger.behind", defArgs s_Ledger_behind, defBody s_Ledger_behind, defScope s_Ledger_behind, [], []⟩]
def fn1 : List He.DefD := [⟨("Ledger", some "as_of"), "as_of", "Ledger.as_of", defArgs s_Ledger_as_of, defBody s_Ledger_as_of, defScope s_Ledger_as_of, [], []⟩, ⟨("is_like", none), "is_like", "is_like", defArgs s_is_like, defBody s_is_like, defScope s_is_like, [], []⟩, ⟨("comes_of", none), "comes_of", "comes_of", defArgs s_comes_of, defBody s_comes_of, defScope s_comes_of, [], []⟩, ⟨("_law_cell", none), "_law_cell", "_law_cell", defArgs s__law_cell, defBody s__law_cell, defScope s__law_cell, [], []⟩, ⟨("_law_drawn", none), "_law_drawn", "_law_drawn", defArgs s__law_drawn, defBody s__law_drawn, defScope s__law_drawn, [], []⟩, ⟨("_law_word", none), "_law_word", "_law_word", defArgs s__law_word, defBody s__law_word, defScope s__law_word, [], []⟩, ⟨("_law_told", none), "_law_told", "_law_told", defArgs s__law_told, defBody s__law_told, defScope s__law_told, [], []⟩, ⟨("_law_any_name", none), "_law_any_name", "_law_any_name", defArgs s__law_any_name, defBody s__law_any_name, defScope s__law_any_name, [], []⟩, ⟨("_law_any_text", none), "_law_any_text", "_law_any_text", defArgs s__law_any_text, defBody s__law_any_text, defScope s__law_any_text, [], []⟩, ⟨("_law_own", none), "_law_own", "_law_own", defArgs s__law_own, defBody s__law_own, defScope s__law_own, [], []⟩, ⟨("_law_beneath", none), "_law_beneath", "_law_beneath", defArgs s__law_beneath, defBody s__law_beneath, defScope s__law_beneath, [], []⟩, ⟨("_law_above", none), "_law_above", "_law_above", defArgs s__law_above, defBody s__law_above, defScope s__law_above, [], []⟩, ⟨("_law_points", none), "_law_points", "_law_points", defArgs s__law_points, defBody s__law_points, defScope s__law_points, [], []⟩, ⟨("_law_say", none), "_law_say", "_law_say", defArgs s__law_say, defBody s__law_say, defScope s__law_say, [], []⟩, ⟨("_law_strike", none), "_law_strike", "_law_strike", defArgs s__law_strike, defBody s__law_strike, defScope s__law_strike, [], []⟩, ⟨("_law_act", none), "_law_act", "_law_act", defArgs s__law_act, defBody s__law_act, defScope s__law_act, [], []⟩, ⟨("_law_deed", none), "_law_deed", "_law_deed", defArgs s__law_deed, defBody s__law_deed, defScope s__law_deed, [], []⟩, ⟨("_law_like", none), "_law_like", "_law_like", defArgs s__law_like, defBody s__law_like, defScope s__law_like, [], []⟩, ⟨("_law_one_like", none), "_law_one_like", "_law_one_like", defArgs s__law_one_like, defBody s__law_one_like, defScope s__law_one_like, [], []⟩, ⟨("_law_as_ledger", none), "_law_as_ledger", "_law_as_ledger", defArgs s__law_as_ledger, defBody s__law_as_ledger, defScope s__law_as_ledger, [], []⟩, ⟨("_law_own_copy", none), "_law_own_copy", "_law_own_copy", defArgs s__law_own_copy, defBody s__law_own_copy, defScope s__law_own_copy, [], []⟩, ⟨("_law_is_whole", none), "_law_is_whole", "_law_is_whole", defArgs s__law_is_whole, defBody s__law_is_whole, defScope s__law_is_whole, [], []⟩, ⟨("law", none), "law", "law", defArgs s_law, defBody s_law, defScope s_law, [], []⟩]
def fn : List He.DefD := fn0 ++ fn1
def tf : List He.Defn := [("law", none)]
def exB0 (K : PySem.W.Frag) : Bool := wordB K errs && (decide (((tabs K).map (·.1)).Nodup)
)
def tsd : List He.Tab := [(fun K => He.ga K "SIZES", ["tick", "say", "change", "strike", "vote"])]
def missB (K : PySem.W.Frag) (z : Str) : Bool := match PySem.W.nsIn K (He.ga K "SIZES") z with
  | some none => true
  | _ => false
theorem missB_ok {K : PySem.W.Frag} {z : Str} (h : missB K z = true) : PySem.W.nsIn K (He.ga K "SIZES") z = some none := by
  unfold missB at h
  split at h
  · assumption
  · cases h
def sizV : List (Str × He.Dv) := [("tick", .int 2), ("say", .int 4), ("change", .int 4), ("strike", .int 3), ("vote", .int 4)]
def sizB (K : PySem.W.Frag) : Bool := He.valsB K (He.ga K "SIZES") sizV && (missB K "stop" && missB K "Say")
def exB (K : PySem.W.Frag) : Bool := exB0 K && sizB K
theorem txtd_of {K : PySem.W.Frag} {w : World} {h : Heap} (c : He.SaysX fa fn tsd tf exB w h K) : TxtD K w := by
  obtain ⟨v, m⟩ := He.ba (He.ba c.more).2
  obtain ⟨m1, m2⟩ := He.ba m
  have at_ : ∀ q, q ∈ sizV → _ := fun q hq => He.valsB_ok v (q := q) hq
  exact ⟨c.t.tab 0 rfl, at_ ("tick", .int 2) (by simp [sizV]), at_ ("say", .int 4) (by simp [sizV]), at_ ("change", .int 4) (by simp [sizV]), at_ ("strike", .int 3) (by simp [sizV]), at_ ("vote", .int 4) (by simp [sizV]), missB_ok m1, missB_ok m2⟩
theorem txt_of {K : PySem.W.Frag} {w : World} {h base : Heap} {mg : Str → Option Value} (X : K.In h) (G : h.Ns mainGlobals mg) (c : He.SaysX fa fn tsd tf exB w h K) (tb : ∀ p ∈ tf, LamX.TabB base mg (He.cT K p).1 (He.cT K p).2) : Txt K mg base := by
  have d : He.SaysD fa fn K := c.t.d
  obtain ⟨ex0, more0⟩ := He.ba (He.ba c.more).1
  have ex1 := more0
  exact {
    x_WoodError := by obtain ⟨a, b, c, e⟩ := He.exc_ok (d.fact 0 rfl); exact ⟨He.glo_ok X G (d.fact 1 rfl), a, b, c, e⟩
    x_BadName := by obtain ⟨a, b, c, e⟩ := He.exc_ok (d.fact 2 rfl); exact ⟨He.glo_ok X G (d.fact 3 rfl), a, b, c, e⟩
    x_NoSaying := by obtain ⟨a, b, c, e⟩ := He.exc_ok (d.fact 4 rfl); exact ⟨He.glo_ok X G (d.fact 5 rfl), a, b, c, e⟩
    x_BadText := by obtain ⟨a, b, c, e⟩ := He.exc_ok (d.fact 6 rfl); exact ⟨He.glo_ok X G (d.fact 7 rfl), a, b, c, e⟩
    x_Full := by obtain ⟨a, b, c, e⟩ := He.exc_ok (d.fact 8 rfl); exact ⟨He.glo_ok X G (d.fact 9 rfl), a, b, c, e⟩
    x_NotYours := by obtain ⟨a, b, c, e⟩ := He.exc_ok (d.fact 10 rfl); exact ⟨He.glo_ok X G (d.fact 11 rfl), a, b, c, e⟩
    x_BadNumber := by obtain ⟨a, b, c, e⟩ := He.exc_ok (d.fact 12 rfl); exact ⟨He.glo_ok X G (d.fact 13 rfl), a, b, c, e⟩
    x_BadDeed := by obtain ⟨a, b, c, e⟩ := He.exc_ok (d.fact 14 rfl); exact ⟨He.glo_ok X G (d.fact 15 rfl), a, b, c, e⟩
    x_Nothing := by obtain ⟨a, b, c, e⟩ := He.exc_ok (d.fact 16 rfl); exact ⟨He.glo_ok X G (d.fact 17 rfl), a, b, c, e⟩
    x_NotKin := by obtain ⟨a, b, c, e⟩ := He.exc_ok (d.fact 18 rfl); exact ⟨He.glo_ok X G (d.fact 19 rfl), a, b, c, e⟩
    c_Saying := ⟨He.glo_ok X G (d.fact 20 rfl), He.cls_ok (d.fact 21 rfl), He.mkr_ok (d.fact 22 rfl)⟩
    n_Saying_by := He.noat_ok (d.fact 23 rfl)
    n_Saying_under := He.noat_ok (d.fact 24 rfl)
    n_Saying_text := He.noat_ok (d.fact 25 rfl)
    n_Saying_time := He.noat_ok (d.fact 26 rfl)
    n_Saying_votes := He.noat_ok (d.fact 27 rfl)
    n_Saying_is_struck := He.noat_ok (d.fact 28 rfl)
    c_Wood := ⟨He.glo_ok X G (d.fact 29 rfl), He.cls_ok (d.fact 30 rfl), He.mkr_ok (d.fact 31 rfl)⟩
    n_Wood_sayings := He.noat_ok (d.fact 32 rfl)
    n_Wood_came := He.noat_ok (d.fact 33 rfl)
    n_Wood_clock := He.noat_ok (d.fact 34 rfl)
    c_Ledger := ⟨He.glo_ok X G (d.fact 35 rfl), He.cls_ok (d.fact 36 rfl), He.mkr_ok (d.fact 37 rfl)⟩
    n_Ledger_deeds := He.noat_ok (d.fact 38 rfl)
    n_Ledger_taken := He.noat_ok (d.fact 39 rfl)
    n_Ledger_grown := He.noat_ok (d.fact 40 rfl)
    g_is_count := He.glo_ok X G (d.fact 41 rfl)
    f_is_count := d.def_ 0 rfl
    g_need_name := He.glo_ok X G (d.fact 42 rfl)
    f_need_name := d.def_ 1 rfl
    g_need_text := He.glo_ok X G (d.fact 43 rfl)
    f_need_text := d.def_ 2 rfl
    f_Saying___init__ := d.def_ 3 rfl
    m_Saying_ups := He.meth_ok (d.fact 44 rfl)
    f_Saying_ups := d.def_ 4 rfl
    m_Saying_downs := He.meth_ok (d.fact 45 rfl)
    f_Saying_downs := d.def_ 5 rfl
    m_Saying_points := He.meth_ok (d.fact 46 rfl)
    f_Saying_points := d.def_ 6 rfl
    f_Wood___init__ := d.def_ 7 rfl
    m_Wood_now := He.meth_ok (d.fact 47 rfl)
    f_Wood_now := d.def_ 8 rfl
    m_Wood_tick := He.meth_ok (d.fact 48 rfl)
    f_Wood_tick := d.def_ 9 rfl
    m_Wood_saying := He.meth_ok (d.fact 49 rfl)
    f_Wood_saying := d.def_ 10 rfl
    m_Wood_numbers := He.meth_ok (d.fact 50 rfl)
    f_Wood_numbers := d.def_ 11 rfl
    m_Wood_deep := He.meth_ok (d.fact 51 rfl)
    f_Wood_deep := d.def_ 12 rfl
    m_Wood_say := He.meth_ok (d.fact 52 rfl)
    f_Wood_say := d.def_ 13 rfl
    m_Wood_look := He.meth_ok (d.fact 53 rfl)
    f_Wood_look := d.def_ 14 rfl
    m_Wood_own := He.meth_ok (d.fact 54 rfl)
    f_Wood_own := d.def_ 15 rfl
    m_Wood_change := He.meth_ok (d.fact 55 rfl)
    f_Wood_change := d.def_ 16 rfl
    m_Wood_replies := He.meth_ok (d.fact 56 rfl)
    f_Wood_replies := d.def_ 17 rfl
    m_Wood_strike := He.meth_ok (d.fact 57 rfl)
    f_Wood_strike := d.def_ 18 rfl
    m_Wood_vote := He.meth_ok (d.fact 58 rfl)
    f_Wood_vote := d.def_ 19 rfl
    m_Wood_votes_of := He.meth_ok (d.fact 59 rfl)
    f_Wood_votes_of := d.def_ 20 rfl
    m_Wood_below := He.meth_ok (d.fact 60 rfl)
    f_Wood_below := d.def_ 21 rfl
    m_Wood_many := He.meth_ok (d.fact 61 rfl)
    f_Wood_many := d.def_ 22 rfl
    m_Wood_standing := He.meth_ok (d.fact 62 rfl)
    f_Wood_standing := d.def_ 23 rfl
    g_done := He.glo_ok X G (d.fact 63 rfl)
    f_done := d.def_ 24 rfl
    g_played := He.glo_ok X G (d.fact 64 rfl)
    f_played := d.def_ 25 rfl
    f_Ledger___init__ := d.def_ 26 rfl
    m_Ledger_do := He.meth_ok (d.fact 65 rfl)
    f_Ledger_do := d.def_ 27 rfl
    m_Ledger_whole := He.meth_ok (d.fact 66 rfl)
    f_Ledger_whole := d.def_ 28 rfl
    m_Ledger_behind := He.meth_ok (d.fact 67 rfl)
    f_Ledger_behind := d.def_ 29 rfl
    m_Ledger_as_of := He.meth_ok (d.fact 68 rfl)
    f_Ledger_as_of := d.def_ 30 rfl
    g_is_like := He.glo_ok X G (d.fact 69 rfl)
    f_is_like := d.def_ 31 rfl
    g_comes_of := He.glo_ok X G (d.fact 70 rfl)
    f_comes_of := d.def_ 32 rfl
    g__law_cell := He.glo_ok X G (d.fact 71 rfl)
    f__law_cell := d.def_ 33 rfl
    g__law_drawn := He.glo_ok X G (d.fact 72 rfl)
    f__law_drawn := d.def_ 34 rfl
    g__law_word := He.glo_ok X G (d.fact 73 rfl)
    f__law_word := d.def_ 35 rfl
    g__law_told := He.glo_ok X G (d.fact 74 rfl)
    f__law_told := d.def_ 36 rfl
    g__law_any_name := He.glo_ok X G (d.fact 75 rfl)
    f__law_any_name := d.def_ 37 rfl
    g__law_any_text := He.glo_ok X G (d.fact 76 rfl)
    f__law_any_text := d.def_ 38 rfl
    g__law_own := He.glo_ok X G (d.fact 77 rfl)
    f__law_own := d.def_ 39 rfl
    g__law_beneath := He.glo_ok X G (d.fact 78 rfl)
    f__law_beneath := d.def_ 40 rfl
    g__law_above := He.glo_ok X G (d.fact 79 rfl)
    f__law_above := d.def_ 41 rfl
    g__law_points := He.glo_ok X G (d.fact 80 rfl)
    f__law_points := d.def_ 42 rfl
    g__law_say := He.glo_ok X G (d.fact 81 rfl)
    f__law_say := d.def_ 43 rfl
    g__law_strike := He.glo_ok X G (d.fact 82 rfl)
    f__law_strike := d.def_ 44 rfl
    g__law_act := He.glo_ok X G (d.fact 83 rfl)
    f__law_act := d.def_ 45 rfl
    g__law_deed := He.glo_ok X G (d.fact 84 rfl)
    f__law_deed := d.def_ 46 rfl
    g__law_like := He.glo_ok X G (d.fact 85 rfl)
    f__law_like := d.def_ 47 rfl
    g__law_one_like := He.glo_ok X G (d.fact 86 rfl)
    f__law_one_like := d.def_ 48 rfl
    g__law_as_ledger := He.glo_ok X G (d.fact 87 rfl)
    f__law_as_ledger := d.def_ 49 rfl
    g__law_own_copy := He.glo_ok X G (d.fact 88 rfl)
    f__law_own_copy := d.def_ 50 rfl
    g__law_is_whole := He.glo_ok X G (d.fact 89 rfl)
    f__law_is_whole := d.def_ 51 rfl
    g_law := He.glo_ok X G (d.fact 90 rfl)
    f_law := d.def_ 52 rfl
    b_ValueError := He.free_ok X G (d.fact 91 rfl)
    b_all := He.free_ok X G (d.fact 92 rfl)
    b_bool := He.free_ok X G (d.fact 93 rfl)
    b_dict := He.free_ok X G (d.fact 94 rfl)
    b_int := He.free_ok X G (d.fact 95 rfl)
    b_isinstance := He.free_ok X G (d.fact 96 rfl)
    b_len := He.free_ok X G (d.fact 97 rfl)
    b_max := He.free_ok X G (d.fact 98 rfl)
    b_min := He.free_ok X G (d.fact 99 rfl)
    b_ord := He.free_ok X G (d.fact 100 rfl)
    b_range := He.free_ok X G (d.fact 101 rfl)
    b_sorted := He.free_ok X G (d.fact 102 rfl)
    b_str := He.free_ok X G (d.fact 103 rfl)
    b_sum := He.free_ok X G (d.fact 104 rfl)
    b_tuple := He.free_ok X G (d.fact 105 rfl)
    k_SMALL := by obtain ⟨t, e⟩ := He.str_ok X G (d.fact 106 rfl); exact ⟨_, e, _, rfl⟩
    k_MOST_WORD := by obtain ⟨t, e⟩ := He.int_ok X G (d.fact 107 rfl); exact ⟨_, e, _, rfl⟩
    k_MOST_TEXT := by obtain ⟨t, e⟩ := He.int_ok X G (d.fact 108 rfl); exact ⟨_, e, _, rfl⟩
    k_MOST_SAYINGS := by obtain ⟨t, e⟩ := He.int_ok X G (d.fact 109 rfl); exact ⟨_, e, _, rfl⟩
    k_MOST_DEEP := by obtain ⟨t, e⟩ := He.int_ok X G (d.fact 110 rfl); exact ⟨_, e, _, rfl⟩
    k_MOST_TICKS := by obtain ⟨t, e⟩ := He.int_ok X G (d.fact 111 rfl); exact ⟨_, e, _, rfl⟩
    k_BARRED := by obtain ⟨t, e⟩ := He.int_ok X G (d.fact 112 rfl); exact ⟨_, e, _, rfl⟩
    k_SIZES := ⟨_, He.glo_ok X G (d.fact 113 rfl), rfl⟩
    wd := wordB_ok ex0
    tn := of_decide_eq_true ex1
    tb_law := tb ("law", none) (by unfold tf; simp)
  }

abbrev R : PySem.W.OpenRow := PySem.W.OpenLaw.row PySem.Challenge.rw_votewood_k66_whole_times_of_ledgers
abbrev hk : PySem.W.Hook := He.hookX 4 fa fn tsd tf exB
def ob (s : PySem.W.SharedT) : He.AlX := He.obsX 4 fa fn tsd tf exB (HandSHeadRun.getT s)
theorem ob_eq (s : PySem.W.SharedT) : ob s = hk.obs s.abs := He.obsX_eq (HandSHeadRun.getT_eq s)
def nm0 : List PySem.Str := ["_wall", "WoodError", "BadName", "NoSaying", "BadText", "Full", "NotYours", "BadNumber", "BadDeed", "Nothing", "NotKin", "SMALL", "MOST_WORD", "MOST_TEXT", "MOST_SAYINGS", "MOST_DEEP", "MOST_TICKS", "BARRED", "is_count", "need_name", "need_text", "Saying", "Wood", "SIZES", "done", "played", "Ledger", "is_like", "comes_of", "_law_cell"]
def nm1 : List PySem.Str := ["_law_drawn", "_law_word", "_law_told", "_law_any_name", "_law_any_text", "_law_own", "_law_beneath", "_law_above", "_law_points", "_law_say", "_law_strike", "_law_act", "_law_deed", "_law_like", "_law_one_like", "_law_as_ledger", "_law_own_copy", "_law_is_whole"]
def names : List PySem.Str := nm0 ++ nm1
theorem runF (w : World) : HandSHeadRun.RunEq R (PySem.W.view R.prog [53]) hk ob 30000 names (w.withFollow "special-get-raises" false) := by
  intro os
  kernel_rfl
theorem runT (w : World) : HandSHeadRun.RunEq R (PySem.W.view R.prog [53]) hk ob 30000 names (w.withFollow "special-get-raises" true) := by
  intro os
  kernel_rfl
theorem run (w : World) : HandSHeadRun.RunEq R (PySem.W.view R.prog [53]) hk ob 30000 names w := PySem.W.byRow2 "special-get-raises" (P := fun w => HandSHeadRun.RunEq R (PySem.W.view R.prog [53]) hk ob 30000 names w) runF runT w
theorem tabs_start {K : PySem.W.Frag} {H : Hp} (h : ∀ p ∈ tf.map (He.cT K), H p.2 = some (.tbl #[])) : LamX.Tabs (tabs K) H := fun p hp => LamX.TabS.nil (by
  simp only [tabs, List.mem_cons, List.not_mem_nil, or_false] at hp
  first
  | (subst hp; exact h _ (List.mem_map.mpr ⟨_, by unfold tf; simp, rfl⟩))
  | (rcases hp with rfl <;> (exact h _ (List.mem_map.mpr ⟨_, by unfold tf; simp, rfl⟩))))
theorem law_at {K : PySem.W.Frag} {w : World} {h : Heap} {mg : Str → Option Value} {f : Addr} (X : K.In h) (G : h.Ns mainGlobals mg) (hf : mg ("law" : Str) = some (.ref f)) (c : He.SaysX fa fn tsd tf exB w h K) :
    LamX.LawAtS PySem.Challenge.rw_votewood_k66_whole_times_of_ledgers w K (L2N.CX (PySem.Challenge.rw_votewood_k66_whole_times_of_ledgers).prog w) 25 63 "script" mg f h := by
  have g := hf.symm.trans (He.glo_ok X G (c.t.d.fact 90 (f := .glo "law") rfl))
  cases g
  obtain ⟨fd, F⟩ := c.t.d.def_ 52 (d := ⟨("law", none), "law", "law", defArgs s_law, defBody s_law, defScope s_law, [], []⟩) rfl
  have b := FunD.bindsA (ps := ["script"]) F be_law
  refine ⟨fd, tf.map (He.cT K), spLaw K, fun p hp => ?_, fun p hp => ?_, fun p hp => ?_, fun s u => b s [u] rfl, fun H a ns hl hz hH hS => ⟨a, ns, rfl, hS, hl, fun z hz1 => ?_, tabs_start hH, fun _ => rfl⟩, fun base KB GB hB => D_law F (txt_of X G c fun p hp => hB _ (List.mem_map.mpr ⟨p, hp, rfl⟩)) (txtd_of c)⟩
  · obtain ⟨q, hq, rfl⟩ := List.mem_map.mp hp
    exact c.empty q hq
  · obtain ⟨q, hq, rfl⟩ := List.mem_map.mp hp
    exact c.out q hq
  · obtain ⟨q, hq, rfl⟩ := List.mem_map.mp hp
    exact PySem.W.codeHd_of_K X (c.hd q hq)
  · exact Nat.lt_of_lt_of_le (natAbs_lt_pow_bits z) (Nat.pow_le_pow_right (by omega) (Nat.le_trans (hz z hz1) (by unfold bigC; omega)))
end Vw
open PySem PySem.W PySem.Calls PyProof.Rows
theorem PySem.Challenge.cw_votewood_k66_whole_times_of_ledgers_holds : PySem.Challenge.rw_votewood_k66_whole_times_of_ledgers.Holds := by
  w_on; o_law
  refine HandSHeadRun.head_any (r := Vw.R) (q := view Vw.R.prog [53]) (H := Vw.hk) (ob := Vw.ob) (M := 30000) (loose := Vw.names) (d := HandSHeadRun.topDef Vw.R.prog 53) (kwd := []) Vw.ob_eq
    (by kernel_rfl) (fun s => by kernel_rfl) Vw.run (by kernel_rfl) (by kernel_rfl) (by kernel_rfl) (by rfl) (by first | assumption | decide +kernel) (by decide +kernel) ⟨rfl, rfl, rfl, rfl, rfl, by decide +kernel⟩ ?hw ?hc
  case hw => w_witness2
  case hc =>
    refine LamX.walk_ofTsE (l := PySem.Challenge.rw_votewood_k66_whole_times_of_ledgers) (n := 63) (k := 25) (x := "script") (CX := fun w => L2N.CX (PySem.Challenge.rw_votewood_k66_whole_times_of_ledgers).prog w) rfl (by decide) (by kernel_rfl) ⟨rfl, by decide, by decide⟩ ?F (fun w H s e s' z => by
      obtain ⟨_, _, _, _, _, _, _, _, _, _, _, _, z⟩ := z
      exact z)
    intro w mg fa h Y G hmg0
    obtain ⟨K, KX, c⟩ := Y
    have hmg : mg ("law" : PySem.Str) = some (.ref fa) := by
      have e : (HandSHeadRun.topDef Vw.R.prog 53).name = ("law" : PySem.Str) := by kernel_rfl
      rw [← e]
      exact hmg0
    exact ⟨K, KX, Vw.law_at KX G hmg c⟩
