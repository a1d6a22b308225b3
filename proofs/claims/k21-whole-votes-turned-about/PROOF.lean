import PyProof.Rows.All
import Wide.All
import OpenK.AllK
import Wide.FinOn
import PyProof.EqAt
import PyProof.EqKinds
import PyProof.TupleCall
import KE.KLam
import HandS.ForMost
import HandS.More
import HandS.Exc
import HandS.ExcOwn
import HandS.ExcCtx
import HandS.ExcIs
import HandS.TryOnly
import HandS.Codes
import HandS.Lambda
import HandS.Hot
import HandS.HotCalls
import HandS.Wide
import HandS.IsInst
import HandS.Defaults
import HandS.Steps
import HandS.Flow
import HandS.CallRecv
import HandS.HeadHook4
import HandS.HeadWalk
import HandS.Walk
import PyProof.CompFree
import PyProof.SumWalkG
import PyProof.Rows.SumAny
import HandS.WideBits
import HandS.TupAny
import HandS.SetFor
import PySem.Challenge.RW_votewood_k21_whole_votes_turned_about
import PyProof.StrOps2
import HandS.Style
import PyProof.Rows.SortShellAny
import HandS.Head0
import HandS.Head1
import HandS.Head2
set_option Elab.async false
set_option linter.all false
set_option maxRecDepth 100000
set_option maxHeartbeats 0
namespace Vw
open PySem PySem.Spec PyProof.Rows L2

/-! ### a def of the text that keeps its promise -/
structure Def (P : Program) (w : World) (K : PySem.W.Frag) (mg : Str → Option Value) (base : Heap) (k : Nat) (f : Addr) (ps : List Str) (sp : Sp) : Prop where
  ex : ∃ fd, FnOk P w K mg base (L2N.CX P w) k f fd ps sp ∧ Binds K fd ps []
  kp : PySem.W.keepIn K (.ref f) = true
theorem Def.mono {P : Program} {w : World} {K : PySem.W.Frag} {mg : Str → Option Value} {base : Heap} {j k : Nat} {f : Addr} {ps : List Str} {sp : Sp}
    (D : Def P w K mg base j f ps sp) (h : j ≤ k) : Def P w K mg base k f ps sp := by
  obtain ⟨⟨fd, F, b⟩, kp⟩ := D
  exact ⟨⟨fd, F.mono h, b⟩, kp⟩
theorem Def.imp {P : Program} {w : World} {K : PySem.W.Frag} {mg : Str → Option Value} {base : Heap} {k : Nat} {f : Addr} {ps : List Str} {sp sp' : Sp}
    (D : Def P w K mg base k f ps sp) (h : ∀ vs H Q E, sp' vs H Q E → sp vs H Q E) : Def P w K mg base k f ps sp' := by
  obtain ⟨⟨fd, F, b⟩, kp⟩ := D
  exact ⟨⟨fd, F.imp h, b⟩, kp⟩
/-- the text of a def stands at f -/
def Is (K : PySem.W.Frag) (x qual : Str) (st : Stmt) (f : Addr) : Prop := ∃ fd, FunD K x qual (defArgs st) (defBody st) (defScope st) [] [] f fd
abbrev cxN (P : Program) (w : World) (K : PySem.W.Frag) (mg : Str → Option Value) (base : Heap) (N : List Str) (qual : Str) (sc : Scope) (f : Addr) (cd : Value) (A : Around) (outer : List Env) (s : Shared) (H : Hp) (E : XK) : Cx :=
  cxOf (L2N.CX P w) P w K mg base N qual sc f cd A outer s H E
/-- how a def's arguments bind: no defaults -/
def BindEq (x qual : Str) (st : Stmt) (ps : List Str) : Prop :=
  ∀ (kV doc pm : Value) (an : Option Addr) (cdv ct : Value) (us : List Value), us.length = ps.length →
    bindArgs (PySem.W.fnOf x qual (defArgs st) (defBody st) (defScope st) .none kV doc pm an cdv ct) ⟨us, []⟩ = pure (ps.zip us)
section
variable {P : Program} {w : World} {K : PySem.W.Frag} {mg : Str → Option Value} {base : Heap}
theorem mk_def {x qual : Str} {st : Stmt} {f : Addr} {N ps : List Str} {k : Nat} {sp : Sp} (F : Is K x qual st f) (S : FnScope N ps (defScope st)) (hb : BindEq x qual st ps)
    (len : ∀ vs H Q E, sp vs H Q E → vs.length = ps.length)
    (body : ∀ (cdv : Value) (A : Around) (outer : List Env) (s : Shared) (H : Hp) (vs : List V) (Q : VK) (E : XK), Room k (A.deeper (envOfC qual (defScope st) s.heap.objs.size f cdv)) → sp vs H Q E →
      ∃ t, PSs (cxN P w K mg base N qual (defScope st) f cdv A outer s H E) (defBody st) t ∧ t { nx := fun _ H' => Q .non H', rt := Q } (start N vs) H) :
    Def P w K mg base (k + 1) f ps sp := by
  obtain ⟨fd, F⟩ := F
  exact ⟨⟨fd, F.ok S len body, F.bindsN hb⟩, F.kp⟩
theorem passE {N : List Str} {qual : Str} {sc : Scope} {f : Addr} {cd : Value} {A : Around} {outer : List Env} {s : Shared} {H : Hp} {E : XK} :
    Passes (L2N.CX P w) (cxN P w K mg base N qual sc f cd A outer s H E) E :=
  L2N.passes_call (L2N.takes_of rfl rfl rfl rfl) fun _ _ _ _ h => h
theorem takesE {N : List Str} {qual : Str} {sc : Scope} {f : Addr} {cd : Value} {A : Around} {outer : List Env} {s : Shared} {H : Hp} {E : XK} :
    L2N.Takes (cxN P w K mg base N qual sc f cd A outer s H E) (fun cls d _ H' => E cls d H') := L2N.takes_of rfl rfl rfl rfl
theorem ownE {N : List Str} {qual : Str} {sc : Scope} {f : Addr} {cd : Value} {A : Around} {outer : List Env} {s : Shared} {H : Hp} {E : XK} :
    PassesOwn (model P w) (cxN P w K mg base N qual sc f cd A outer s H E).A (cxN P w K mg base N qual sc f cd A outer s H E).env (cxN P w K mg base N qual sc f cd A outer s H E).xe :=
  passes_of (X := cxN P w K mg base N qual sc f cd A outer s H E) rfl
end
/-- where nothing may be let out -/
theorem passF {X : Cx} : Passes (L2N.CX X.prog X.w) X E0 := fun _ _ _ _ _ _ _ h => by
  obtain ⟨_, _, _, _, _, _, _, _, _, _, _, _, z⟩ := h
  exact z.elim
section
variable {X : Cx} {k : Nat} {f C : Addr} {ps : List Str} {sp : Sp} {E : XK} {x m : Str} {p pos apos : Pos} {e o : Expr} {es : List Expr} {ta : TE} {t : TA}
theorem pe_cd (D : Def X.prog X.w X.K X.mg X.base k f ps sp) (hr : Room k X.A) (hm : X.mg x = some (.ref f)) (hx : Passes (L2N.CX X.prog X.w) X E) (ha : PA X (e :: es) t)
    (hg : Gl X x := by rfl) (hdb : (x == ("__debug__" : Str)) = false := by decide) (he : starEach (e :: es) X.env = (false, eval e X.env) :: starEach es X.env := by rfl)
    (hpl : (backTo pos (starEach es X.env)).any (·.1) = false := by rfl) : PE X (.Call (.Name x p) (e :: es) [] pos) (tCall sp [] E t) := by
  obtain ⟨⟨fd, F, b⟩, kp⟩ := D
  exact pe_call F hr hg hm kp b .nil hx ha hdb he hpl
theorem pe_cd0 (D : Def X.prog X.w X.K X.mg X.base k f ps sp) (hr : Room k X.A) (hm : X.mg x = some (.ref f)) (hx : Passes (L2N.CX X.prog X.w) X E)
    (hg : Gl X x := by rfl) (hdb : (x == ("__debug__" : Str)) = false := by decide) : PE X (.Call (.Name x p) [] [] pos) (tCall sp [] E tNil) := by
  obtain ⟨⟨fd, F, b⟩, kp⟩ := D
  exact pe_call0 F hr hg hm kp b .nil hx hdb
theorem pe_md {pl : Sem Bool} (he : PE X o ta) (c : Cls X.K C) (hm : Meth X.K C m f) (D : Def X.prog X.w X.K X.mg X.base k f ps sp) (hr : Room k X.A) (hx : Passes (L2N.CX X.prog X.w) X E) (ha : PA X (e :: es) t)
    (hst : starEach (e :: es) X.env = (false, eval e X.env) :: starEach es X.env := by rfl) (hpl : (backTo pos (starEach es X.env)).any (·.1) = false := by rfl)
    (ht : eval (.Call (.Attribute o m apos) (e :: es) [] pos) X.env = (do
      let ov ← eval o X.env
      standAt apos.atName
      let (f, first) ← holding [ov] (getMethod ov m pl)
      callWith pos f first (backTo pos (starEach (e :: es) X.env)) (backToKw pos (keywordEach [] X.env))) := by rfl) :
    PE X (.Call (.Attribute o m apos) (e :: es) [] pos) (tMeth C m sp [] E ta t) := by
  obtain ⟨⟨fd, F, b⟩, kp⟩ := D
  exact pe_meth he c hm F hr b .nil hx ha hst hpl ht
theorem pe_md0 {pl : Sem Bool} (he : PE X o ta) (c : Cls X.K C) (hm : Meth X.K C m f) (D : Def X.prog X.w X.K X.mg X.base k f ps sp) (hr : Room k X.A) (hx : Passes (L2N.CX X.prog X.w) X E)
    (ht : eval (.Call (.Attribute o m apos) [] [] pos) X.env = (do
      let ov ← eval o X.env
      standAt apos.atName
      let (f, first) ← holding [ov] (getMethod ov m pl)
      callWith pos f first (backTo pos (starEach [] X.env)) (backToKw pos (keywordEach [] X.env))) := by rfl) :
    PE X (.Call (.Attribute o m apos) [] [] pos) (tMeth C m sp [] E ta tNil) := by
  obtain ⟨⟨fd, F, b⟩, kp⟩ := D
  exact pe_meth0 he c hm F hr b .nil hx ht
theorem pe_mk (M : Mk X.K C f) (D : Def X.prog X.w X.K X.mg X.base k f ps sp) (hr : Room (k + 1) X.A) (hm : X.mg x = some (.ref C)) (hx : Passes (L2N.CX X.prog X.w) X E) (ha : PA X (e :: es) t)
    (hg : Gl X x := by rfl) (hdb : (x == ("__debug__" : Str)) = false := by decide) (he : starEach (e :: es) X.env = (false, eval e X.env) :: starEach es X.env := by rfl)
    (hpl : (backTo pos (starEach es X.env)).any (·.1) = false := by rfl) : PE X (.Call (.Name x p) (e :: es) [] pos) (tMake C sp [] E t) := by
  obtain ⟨⟨fd, F, b⟩, kp⟩ := D
  exact pe_make M F hr hg hm b .nil hx ha hdb he hpl
theorem pe_mk0 (M : Mk X.K C f) (D : Def X.prog X.w X.K X.mg X.base k f ps sp) (hr : Room (k + 1) X.A) (hm : X.mg x = some (.ref C)) (hx : Passes (L2N.CX X.prog X.w) X E)
    (hg : Gl X x := by rfl) (hdb : (x == ("__debug__" : Str)) = false := by decide) : PE X (.Call (.Name x p) [] [] pos) (tMake C sp [] E tNil) := by
  obtain ⟨⟨fd, F, b⟩, kp⟩ := D
  exact pe_make0 M F hr hg hm b .nil hx hdb
end

/-! ### an own exception class; an own class -/
structure Exc (K : PySem.W.Frag) (mg : Str → Option Value) (x : Str) : Prop where
  g : mg x = some (.ref (He.ga K x))
  y : PySem.W.excIn K (He.ga K x) He.veBase "ValueError.__new__" = true
  k : PySem.W.keepIn K (.ref (He.ga K x)) = true
  b : PySem.W.subIn K (.ref (He.ga K x)) (.type "BaseException") = some true
  t : PySem.W.typeIn K (.ref (He.ga K x)) = some (.type "type")
section
variable {P : Program} {w : World} {K : PySem.W.Frag} {mg : Str → Option Value} {base : Heap}
/-- raise X('..') in a def -/
theorem ps_rs {N : List Str} {qual : Str} {sc : Scope} {f : Addr} {cd : Value} {A : Around} {outer : List Env} {s : Shared} {H : Hp} {E : XK} {x z : Str} {j : Nat} {p p2 pos pos2 : Pos} (T : Exc K mg x)
    (hg : Gl (cxN P w K mg base N qual sc f cd A outer s H E) x := by rfl) (hdb : (x == ("__debug__" : Str)) = false := by decide) :
    PS (cxN P w K mg base N qual sc f cd A outer s H E) (.Raise (some (.Call (.Name x p) [.Constant (.str z) j p2] [] pos)) none pos2) (fun _ _ H' => E (.ref (He.ga K x)) none H') :=
  L2N.ps_raise (W := fun cls d _ H' => E cls d H') rfl takesE (L2N.pmk_own PySem.F.excBase_ValueError T.y T.g T.k (raises_own T.b T.t) hg hdb)
end
structure Own (K : PySem.W.Frag) (mg : Str → Option Value) (x : Str) : Prop where
  g : mg x = some (.ref (He.ga K x))
  c : Cls K (He.ga K x)
  m : Mk K (He.ga K x) (He.ma K (He.ga K x) "__init__")
/-- a new object: forget all but that the rest stays -/
theorem fresh {H : Hp} {o : HO} {G : Addr → Hp → Prop} (h : ∀ (l : Addr) (H1 : Hp), Same H H1 → H l = none → H1 l = some o → G l H1) : ∀ l, H l = none → G l (upd H l o) := fun l hl =>
  h l _ (fun b u e => by rw [upd_ne (ne_of_none e hl)]; exact e) hl upd_same
/-- a constant of the module -/
structure GK (mg : Str → Option Value) (x : Str) (v : V) : Prop where
  ex : ∃ u, mg x = some u ∧ RelV v u
theorem pe_gk {X : Cx} {x : Str} {v : V} {pos : Pos} (h : GK X.mg x v) (hg : Gl X x := by rfl) (hd : (x == ("__debug__" : Str)) = false := by decide) : PE X (.Name x pos) (tC v) := by
  obtain ⟨u, e, r⟩ := h.ex
  exact pe_glob hg e r hd
/-- what the refusals' classes are to one another -/
structure Wd1 (K : PySem.W.Frag) (cs : List Str) (c : Str) : Prop where
  e : ExcC K (He.ga K c)
  m : PySem.W.exmOne K (.ref (He.ga K c)) (.ref (He.ga K "WoodError")) = some true
  v : PySem.W.kitOne K (.ref (He.ga K c)) (.type "ValueError") = some true
  d : ∀ d ∈ cs, PySem.W.kitOne K (.ref (He.ga K c)) (.ref (He.ga K d)) = some (decide (c = d))
def Word (K : PySem.W.Frag) (cs : List Str) : Prop := ∀ c ∈ cs, Wd1 K cs c
def oB (a b : Option Bool) : Bool := decide (a = b)
def excCB (K : PySem.W.Frag) (D : Addr) : Bool :=
  He.eqO (PySem.W.findIn K (.ref D) "__getattribute__") (some (some (.builtin "BaseException.__getattribute__"))) && (
  He.eqO (PySem.W.findIn K (.ref D) "__getattr__") (some none) && (
  oB (PySem.W.subIn K (.ref D) (.type "BaseException")) (some true) && (
  PySem.W.hasDictIn K D && (
  He.eqO (PySem.W.findIn K (.ref D) "__class__") (some (some (.builtin "object.__class__"))) && (
  He.eqO (PySem.W.specialIn K (.builtin "object.__class__") "__get__") (some (some (.builtin "getset_descriptor.__get__"))) && (
  oB (PySem.W.takesIn K (.builtin "object.__class__")) (some true) && oB (PySem.W.mroIn K D (.type "object")) (some true)))))))
theorem excCB_ok {K : PySem.W.Frag} {D : Addr} (h : excCB K D = true) : ExcC K D := by
  obtain ⟨h1, h⟩ := He.ba h
  obtain ⟨h2, h⟩ := He.ba h
  obtain ⟨h3, h⟩ := He.ba h
  obtain ⟨h4, h⟩ := He.ba h
  obtain ⟨h5, h⟩ := He.ba h
  obtain ⟨h6, h⟩ := He.ba h
  obtain ⟨h7, h8⟩ := He.ba h
  exact ⟨He.eqO_ok h1, He.eqO_ok h2, of_decide_eq_true h3, h4, He.eqO_ok h5, He.eqO_ok h6, of_decide_eq_true h7, of_decide_eq_true h8⟩
def wordB (K : PySem.W.Frag) (cs : List Str) : Bool := cs.all fun c => excCB K (He.ga K c) && (oB (PySem.W.exmOne K (.ref (He.ga K c)) (.ref (He.ga K "WoodError"))) (some true) && (
  oB (PySem.W.kitOne K (.ref (He.ga K c)) (.type "ValueError")) (some true) && cs.all fun d => oB (PySem.W.kitOne K (.ref (He.ga K c)) (.ref (He.ga K d))) (some (decide (c = d)))))
theorem wordB_ok {K : PySem.W.Frag} {cs : List Str} (h : wordB K cs = true) : Word K cs := fun c hc => by
  have h := List.all_eq_true.mp h c hc
  obtain ⟨h1, h⟩ := He.ba h
  obtain ⟨h2, h⟩ := He.ba h
  obtain ⟨h3, h4⟩ := He.ba h
  exact ⟨excCB_ok h1, of_decide_eq_true h2, of_decide_eq_true h3, fun d hd => of_decide_eq_true (List.all_eq_true.mp h4 d hd)⟩
section
variable {X : Cx} {o i e f value a b : Expr} {td ty tv tx ta tb : TE} {pos pos' apos cpos : Pos}
theorem pe_dg (ho : PE X o td) (hi : PE X i ty) (hu : X.A.units + 1 < cLine) (hs : NoSl i := by intro _ _; rfl) : PE X (.Subscript o i pos) (tDGet td ty) := pe_dget hu ho hi hs
theorem pc_di (hi : PE X i ty) (ho : PE X o td) (hu : X.A.units + 1 < cLine) : PC X .In i o (tDIn ty td) := pc_din hu hi ho
theorem pc_dni (hi : PE X i ty) (ho : PE X o td) (hu : X.A.units + 1 < cLine) : PC X .NotIn i o (tDNotIn ty td) := pc_dnotin hu hi ho
theorem ps_dp (ho : PE X o td) (hi : PE X i ty) (hv : PE X value tv) (hu : X.A.units + 1 < cLine) (hs : swapsWith value (some (.Subscript o i pos')) pos.line X.env = pure false := by rfl) :
    PS X (.Assign [.Subscript o i pos'] value pos) (sDPut td ty tv) := ps_dput hu ho hi hv hs
theorem pe_dg1 (ho : PE X o td) (he : PE X e ty) (hu : X.A.units + 1 < cLine) (m : M1 X o "get" apos e cpos := by exact ⟨rfl, rfl, rfl, rfl⟩) : PE X (.Call (.Attribute o "get" apos) [e] [] cpos) (tDGet1 td ty) := pe_dget1 hu ho he m
theorem pe_dg2 (ho : PE X o td) (he : PE X e ty) (hf : PE X f tx) (hu : X.A.units + 1 < cLine) (m : M2 X o "get" apos e f cpos := by exact ⟨rfl, rfl, rfl, rfl⟩) : PE X (.Call (.Attribute o "get" apos) [e, f] [] cpos) (tDGet2 td ty tx) := pe_dget2 hu ho he hf m
theorem pe_dp1 (ho : PE X o td) (he : PE X e ty) (m : M1 X o "pop" apos e cpos := by exact ⟨rfl, rfl, rfl, rfl⟩) : PE X (.Call (.Attribute o "pop" apos) [e] [] cpos) (tDPop1 td ty) := pe_dpop1 ho he m
theorem pe_dp2 (ho : PE X o td) (he : PE X e ty) (hf : PE X f tx) (m : M2 X o "pop" apos e f cpos := by exact ⟨rfl, rfl, rfl, rfl⟩) : PE X (.Call (.Attribute o "pop" apos) [e, f] [] cpos) (tDPop2 td ty tx) := pe_dpop2 ho he hf m
theorem pe_eqd (ha : PE X a ta) (hb : PE X b tb) (hu : X.A.units + 64 < cLine) : PE X (.Compare a [.Eq] [b] pos) (tOp (rEqD X.K) ta tb) := pe_cmpR (op_eqD hu) ha hb (nomark _)
theorem pt_eqd (ha : PE X a ta) (hb : PE X b tb) (hu : X.A.units + 64 < cLine) : PT X (.Compare a [.Eq] [b] pos) (tTest (tOp (rEqD X.K) ta tb)) := pt_cmpR (op_eqD hu) ha hb (nomark _)
theorem pe_ned (ha : PE X a ta) (hb : PE X b tb) (hu : X.A.units + 64 < cLine) : PE X (.Compare a [.NotEq] [b] pos) (tOp (rNeD X.K) ta tb) := pe_cmpR (op_neD hu) ha hb (nomark _)
theorem pt_ned (ha : PE X a ta) (hb : PE X b tb) (hu : X.A.units + 64 < cLine) : PT X (.Compare a [.NotEq] [b] pos) (tTest (tOp (rNeD X.K) ta tb)) := pt_cmpR (op_neD hu) ha hb (nomark _)
end
/-- rules that name the written part: within a comprehension's block -/
theorem pe_fldK (K : PySem.W.Frag) {X : Cx} {e : Expr} {ta : TE} {f : Str} {pos : Pos} (he : PE X e ta) (hb : attributeBase e f X.env (eval e X.env) = eval e X.env := by rfl) (hK : X.K = K := by rfl) : PE X (.Attribute e f pos) (tFld K ta f) := by
  subst hK
  exact pe_fld he hb
end Vw
namespace Vw
open PySem PySem.Spec PyProof.Rows L2
theorem cxOf_K {CX : CXT} {P : Program} {w : World} {K : PySem.W.Frag} {mg : Str → Option Value} {base : Heap} {N : List Str} {qual : Str} {sc : Scope} {f : Addr} {cd : Value} {A : Around} {outer : List Env} {s : Shared} {H : Hp} {E : XK} :
    (cxOf CX P w K mg base N qual sc f cd A outer s H E).K = K := rfl
/-! ### comprehensions that change nothing -/
theorem filterMap_take {α β : Type} (f : α → Option β) {l : List α} {i : Nat} {a : α} (h : l[i]? = some a) : (l.take (i + 1)).filterMap f = (l.take i).filterMap f ++ (f a).toList := by
  rw [List.take_add_one, h, List.filterMap_append]
  cases e : f a <;> simp [e]
theorem lc_ro {α : Type} {J : It} {G : Hp → Prop} {Y : Nat → Hp → V → Hp → Prop} (l : List α) (w : Walk J l.length G Y) (f : α → Option V) {g : TG} {tt : TT} {te : TE} {vs : List Nat} {σ : L2.St} {H1 : Hp} {D : Addr} {Qd : Hp → Prop}
    (hn : l.length < sizeLine) (hD : H1 D = none) (hG : ∀ H, Same H1 H → G H)
    (hs : ∀ i a x H H', l[i]? = some a → Same H1 H → Y i H x H' → ∀ (N1 : V → Hp → Prop) (N0 : Hp → Prop), (∀ y H4, Same H H4 → f a = some y → N1 y H4) → (∀ H3, Same H H3 → f a = none → N0 H3) →
      g x (wipe σ vs) H' fun σ2 H2 => wipe σ2 vs = wipe σ vs ∧ tt σ2 H2 fun b H3 => if b = true then te σ2 H3 N1 else N0 H3)
    (hd : ∀ H, Same H1 H → H D = some (.lst (l.filterMap f)) → Qd H) :
    ∃ W : Nat → Nat → Hp → Prop, (∃ m, W 0 m (upd H1 D (.lst []))) ∧ ∀ i m H, W i m H →
      (J.stop i H ∧ Qd H) ∨ (J.go i H ∧ ∃ Nx : Hp → Prop, (∀ H', Nx H' → ∃ m', m' < m ∧ W (i + 1) m' H') ∧ ∀ x H', J.yld i H x H' → g x (wipe σ vs) H' fun σ2 H2 => wipe σ2 vs = wipe σ vs ∧ tt σ2 H2 fun b H3 =>
        if b = true then te σ2 H3 fun y H4 => ∃ acc, H4 D = some (.lst acc) ∧ acc.length < sizeLine ∧ Nx (upd H4 D (.lst (acc ++ [y]))) else Nx H3) := by
  have new : ∀ {H : Hp} {o : HO}, Same H1 H → Same H1 (upd H D o) := fun {H o} s b u e => by
    rw [upd_ne (ne_of_none e hD)]
    exact s b u e
  refine lc_it w (fun i H => Same H1 H ∧ H D = some (.lst ((l.take i).filterMap f))) ⟨new (Same.refl _), ?_⟩ (fun i H _ p => hG H p.1) (fun i x H H' hi p y => ?_) (fun H p => ?_)
  · rw [upd_same]
    simp
  · obtain ⟨a, ha⟩ : ∃ a, l[i]? = some a := ⟨l[i], by simp [hi]⟩
    refine hs i a x H H' ha p.1 y _ _ (fun y H4 s4 ef => ⟨_, s4 _ _ p.2, ?_, new (p.1.trans s4), ?_⟩) (fun H3 s3 ef => ⟨p.1.trans s3, ?_⟩)
    · have h1 := List.length_filterMap_le f (l.take i)
      have h2 : (l.take i).length ≤ l.length := by rw [List.length_take]; omega
      omega
    · rw [upd_same, filterMap_take f ha, ef]
      rfl
    · rw [filterMap_take f ha, ef, s3 _ _ p.2]
      simp
  · have e := p.2
    rw [List.take_length] at e
    exact hd H p.1 e
/-! ### a lock that is opened again -/
theorem Same.lock {H H' : Hp} {d : Addr} {u f : HO} (hd : H d = some u) (s : Same (upd H d f) H') : Same H (upd H' d u) := fun b o e => by
  by_cases hb : b = d
  · subst hb
    rw [hd] at e
    cases e
    exact upd_same
  · rw [upd_ne hb]
    exact s b o (by rw [upd_ne hb]; exact e)
theorem Same.at {H H' : Hp} {a : Addr} {o : HO} (s : Same H H') (h : H a = some o) : H' a = some o := s a o h
theorem Same.new {H : Hp} {l : Addr} {o : HO} (hl : H l = none) : Same H (upd H l o) := fun b u e => by rw [upd_ne (ne_of_none e hl)]; exact e
mutual
theorem dp_same {K : PySem.W.Frag} {H H' : Hp} (s : Same H H') : ∀ {x : V} {d : PyData}, Dp K H x d → Dp K H' x d
  | _, _, .non => .non
  | _, _, .bl b => .bl b
  | _, _, .int i => .int i
  | _, _, .str z => .str z
  | _, _, .lst hs h => .lst (s.seq hs) (dps_same s h)
  | _, _, .tup hs h => .tup (by
      rcases hs with (h | ⟨o, h⟩) | h
      · exact .inl (.inl (s _ _ h))
      · exact .inl (.inr ⟨o, s _ _ h⟩)
      · exact .inr h) (dps_same s h)
theorem dps_same {K : PySem.W.Frag} {H H' : Hp} (s : Same H H') : ∀ {xs : List V} {ds : List PyData}, DpAll K H xs ds → DpAll K H' xs ds
  | _, _, .nil => .nil
  | _, _, .cons h t => .cons (dp_same s h) (dps_same s t)
end
theorem Same.tup {K : PySem.W.Frag} {H H' : Hp} {a : Addr} {xs : List V} (s : Same H H') (h : SqT K H a xs) : SqT K H' a xs := by
  rcases h with (h | ⟨o, h⟩) | h
  · exact .inl (.inl (s _ _ h))
  · exact .inl (.inr ⟨o, s _ _ h⟩)
  · exact .inr h
/-! ### comprehensions by their source -/
section
variable {K : PySem.W.Frag} {te0 : TE} {g : TG} {tt : TT} {te : TE} {vs : List Nat} {σ : L2.St} {H : Hp} {Q : VK}
/-- one turn: the item x; N1 behind an element, N0 where the test fails -/
def Turn1 {α : Type} (f : α → Option V) (g : TG) (tt : TT) (te : TE) (vs : List Nat) (σ : L2.St) (H : Hp) (a : α) (x : V) : Prop :=
  ∀ (N1 : V → Hp → Prop) (N0 : Hp → Prop), (∀ y H4, Same H H4 → f a = some y → N1 y H4) → (∀ H3, Same H H3 → f a = none → N0 H3) →
    g x (wipe σ vs) H fun σ2 H2 => wipe σ2 vs = wipe σ vs ∧ tt σ2 H2 fun b H3 => if b = true then te σ2 H3 N1 else N0 H3
/-- over a text -/
theorem lcS {z : Str} (f : Nat → Option V) (src : ∀ R : VK, R (.str z) H → te0 σ H R) (hn : z.length < sizeLine)
    (hs : ∀ c H', c ∈ z.cps.toList → Same H H' → Turn1 f g tt te vs σ H' c (.str ⟨#[c]⟩))
    (hd : ∀ D H', H D = none → Same H H' → H' D = some (.lst (z.cps.toList.filterMap f)) → Q (.ref D) H') : tLc (iStr te0) g tt te vs σ H Q := by
  refine src _ ⟨z, rfl, fun D hD => ?_⟩
  have w : Walk (Its z) z.cps.toList.length (fun _ => True) (fun i H v H' => H' = H ∧ ∃ c, z.cps[i]? = some c ∧ v = .str ⟨#[c]⟩) := by
    rw [Array.length_toList]
    exact walk_str
  refine lc_ro z.cps.toList w f (by rw [Array.length_toList]; exact hn) hD (fun _ _ => trivial) (fun i a x H1 H2 ha s1 y => ?_) (fun H' s1 e => hd D H' hD s1 e)
  obtain ⟨rfl, c, hc, rfl⟩ := y
  have e : c = a := by
    rw [Array.getElem?_toList] at ha
    rw [hc] at ha
    exact Option.some.inj ha
  subst e
  exact hs c _ (List.mem_of_getElem? ha) s1
/-- over a list that is made, or stands -/
theorem lcL {α : Type} {l : List α} (it : α → V) (f : α → Option V) (src : ∀ R : VK, (∀ p H1, Same H H1 → SqL K H1 p (l.map it) → R (.ref p) H1) → te0 σ H R) (hn : l.length < sizeLine)
    (hs : ∀ a H', a ∈ l → Same H H' → Turn1 f g tt te vs σ H' a (it a))
    (hd : ∀ D H', H D = none → Same H H' → H' D = some (.lst (l.filterMap f)) → Q (.ref D) H') : tLc (iList K te0) g tt te vs σ H Q := by
  refine src _ fun p H1 s1 hp => ⟨p, rfl, ⟨_, hp⟩, fun D hD => ?_⟩
  have w : Walk (Itl K p) l.length (fun H => SqL K H p (l.map it)) (YAt (l.map it)) := by
    have w := walk_list (K := K) (a := p) (xs := l.map it)
    rw [List.length_map] at w
    exact w
  refine lc_ro l w f hn hD (fun H' s => s.seq hp) (fun i a x H2 H3 ha s2 y => ?_) (fun H' s2 e => hd D H' (s1.free hD) (s1.trans s2) e)
  obtain ⟨rfl, hx⟩ := y
  have e : x = it a := by
    rw [List.getElem?_map, ha] at hx
    exact (Option.some.inj hx).symm
  subst e
  exact hs a _ (List.mem_of_getElem? ha) (s1.trans s2)
/-- over a range -/
theorem lcR {n : Int} {ta : TA} (f : Nat → Option V) (src : ∀ R : List V → Hp → Prop, R [.int n] H → ta σ H R) (hn : n < 10000)
    (hs : ∀ (i : Nat) H', (i : Int) < n → Same H H' → Turn1 f g tt te vs σ H' i (.int i))
    (hd : ∀ D H', H D = none → Same H H' → H' D = some (.lst ((List.range n.toNat).filterMap f)) → Q (.ref D) H') (h0 : -10000 < n := by omega) : tLc (iRng1 ta) g tt te vs σ H Q := by
  refine src _ ⟨n, rfl, by omega, by omega, fun D hD => ?_⟩
  have w : Walk (Itr 0 n.toNat) (List.range n.toNat).length (fun _ => True) (YFn fun i => .int (0 + (i : Nat))) := by
    rw [List.length_range]
    exact walk_range
  refine lc_ro (List.range n.toNat) w f (by rw [List.length_range, sizeLine_eq]; omega) hD (fun _ _ => trivial) (fun i a x H2 H3 ha s2 y => ?_) (fun H' s2 e => hd D H' hD s2 e)
  obtain ⟨rfl, rfl⟩ := y
  have hi : i < n.toNat := by
    have := (List.getElem?_eq_some_iff.mp ha).1
    rwa [List.length_range] at this
  have e : i = a := by
    rw [List.getElem?_range hi] at ha
    exact Option.some.inj ha
  subst e
  have q := hs i H3 (by omega) s2
  have z : (0 : Int) + ((i : Nat) : Int) = (i : Int) := by omega
  dsimp only
  rw [z]
  exact q
/-- over a dict's keys, under its lock -/
theorem lcK {α : Type} {l : List α} {d : Addr} (kv : α → Key × V) (f : α → Option V) (hk : H d = some (.dK (l.map kv))) (src : ∀ (H' : Hp) (R : VK), (∀ b o, b ≠ d → H b = some o → H' b = some o) → R (.ref d) H' → te0 σ H' R) (hn : l.length < sizeLine)
    (hs : ∀ a H' od, a ∈ l → (∀ b o, b ≠ d → H b = some o → H' b = some o) → H' d = some (.frz od (.dK (l.map kv))) → Turn1 f g tt te vs σ H' a (kV (kv a).1))
    (hd : ∀ D H', H D = none → Same H H' → H' D = some (.lst (l.filterMap f)) → Q (.ref D) H') : tLockE (tLc (iKeys te0) g tt te vs) σ H Q := by
  refine ⟨d, _, hk, trivial, fun od => ?_⟩
  have un : ∀ H', Same (upd H d (.frz od (.dK (l.map kv)))) H' → ∀ b o, b ≠ d → H b = some o → H' b = some o := fun H' s b o hb e => s b o (by rw [upd_ne hb]; exact e)
  refine src _ _ (un _ (Same.refl _)) ⟨d, od, rfl, .inl ⟨_, upd_same, fun D hD => ?_⟩⟩
  have nD : D ≠ d := fun z => by
    rw [z, upd_same] at hD
    cases hD
  have w : Walk (Itk d od (l.map kv)) l.length (fun H => H d = some (.frz od (.dK (l.map kv)))) (fun i H x H' => H' = H ∧ ∃ k v, (l.map kv)[i]? = some (k, v) ∧ x = kV k) := by
    have w := walk_keys (d := d) (o := od) (kvs := l.map kv)
    rw [List.length_map] at w
    exact w
  refine lc_ro l w f hn hD (fun H' s => s _ _ upd_same) (fun i a x H2 H3 ha s2 y => ?_) (fun H' s2 e => ⟨s2 _ _ upd_same, hd D _ (by rw [upd_ne nD] at hD; exact hD) (Same.lock hk s2) (by rw [upd_ne nD]; exact e)⟩)
  obtain ⟨rfl, k, v, hx, rfl⟩ := y
  have e : (k, v) = kv a := by
    rw [List.getElem?_map, ha] at hx
    exact (Option.some.inj hx).symm
  have e1 : k = (kv a).1 := congrArg Prod.fst e
  rw [e1]
  exact hs a _ od (List.mem_of_getElem? ha) (un _ s2) (s2 _ _ upd_same)
end
/-! ### for over a list -/
theorem forL {α : Type} {K : PySem.W.Frag} {te0 : TE} {g : TG} {tb : TS} {D : Ends} {σ : L2.St} {H : Hp} {l : List α} (it : α → V) (src : ∀ R : VK, (∀ p H1, Same H H1 → SqL K H1 p (l.map it) → R (.ref p) H1) → te0 σ H R)
    (Pv : Addr → Nat → L2.St → Hp → Prop) (h0 : ∀ p H1, Same H H1 → SqL K H1 p (l.map it) → Pv p 0 σ H1) (hG : ∀ p i σ' H', i ≤ l.length → Pv p i σ' H' → SqL K H' p (l.map it))
    (hs : ∀ p i a σ' H', l[i]? = some a → Pv p i σ' H' → g (it a) σ' H' fun σ2 H2 => tb { D with nx := Pv p (i + 1), ct := Pv p (i + 1), bk := D.nx } σ2 H2)
    (hd : ∀ p σ' H', Pv p l.length σ' H' → D.nx σ' H') : tFor (iList K te0) g tb D σ H := by
  refine src _ fun p H1 s1 hp => ⟨p, rfl, ⟨_, hp⟩, ?_⟩
  have w : Walk (Itl K p) l.length (fun H => SqL K H p (l.map it)) (YAt (l.map it)) := by
    have w := walk_list (K := K) (a := p) (xs := l.map it)
    rw [List.length_map] at w
    exact w
  refine for_it w (Pv p) (h0 p H1 s1 hp) (hG p) (fun i x σ' H2 H3 hi p1 y => ?_) (hd p)
  obtain ⟨rfl, hx⟩ := y
  obtain ⟨a, ha⟩ : ∃ a, l[i]? = some a := ⟨l[i], by simp [hi]⟩
  have e : x = it a := by
    rw [List.getElem?_map, ha] at hx
    exact (Option.some.inj hx).symm
  subst e
  exact hs p i a σ' _ ha p1
/-- for over range(n) -/
theorem forR {n : Int} {ta : TA} {g : TG} {tb : TS} {D : Ends} {σ : L2.St} {H : Hp} (src : ∀ R : List V → Hp → Prop, R [.int n] H → ta σ H R) (hn : n < 100000)
    (Pv : Nat → L2.St → Hp → Prop) (h0 : Pv 0 σ H)
    (hs : ∀ (i : Nat) σ' H', (i : Int) < n → Pv i σ' H' → g (.int i) σ' H' fun σ2 H2 => tb { D with nx := Pv (i + 1), ct := Pv (i + 1), bk := D.nx } σ2 H2)
    (hd : ∀ σ' H', Pv n.toNat σ' H' → D.nx σ' H') (hl : -100000 < n := by omega) : tFor (iRng1 ta) g tb D σ H := by
  refine src _ ⟨n, rfl, by omega, by omega, for_it walk_range Pv h0 (fun _ _ _ _ _ => trivial) (fun i x σ' H2 H3 hi p1 y => ?_) hd⟩
  obtain ⟨rfl, rfl⟩ := y
  have q := hs i σ' H3 (by omega) p1
  have z : (0 : Int) + ((i : Nat) : Int) = (i : Int) := by omega
  dsimp only
  rw [z]
  exact q
theorem lkA {te : TE} {i : Nat} {D : Ends} {σ : L2.St} {H : Hp} (h : tLockE te σ H fun x H1 => D.nx (σ.set i (some x)) H1) : tLock (tAsg te (gName i)) D σ H := h
end Vw
namespace Vw
open PySem PySem.Spec PyProof.Rows L2
theorem toNat_inj {a b : Char} (h : a.toNat = b.toNat) : a = b := Char.ext (UInt32.toNat_inj.mp h)
theorem map_toNat_inj : ∀ {l m : List Char}, l.map Char.toNat = m.map Char.toNat → l = m
  | [], [], _ => rfl
  | [], _ :: _, h => by simp at h
  | _ :: _, [], h => by simp at h
  | a :: l, b :: m, h => by
    simp only [List.map_cons, List.cons.injEq] at h
    rw [toNat_inj h.1, map_toNat_inj h.2]
theorem ofString_inj {a b : String} : (Str.ofString a = Str.ofString b) = (a = b) := by
  refine propext ⟨fun h => ?_, fun h => by rw [h]⟩
  rw [Str.ofString_eq_toList, Str.ofString_eq_toList] at h
  have h1 : (a.toList.map Char.toNat).toArray = (b.toList.map Char.toNat).toArray := congrArg Str.cps h
  have h2 : a.toList.map Char.toNat = b.toList.map Char.toNat := by simpa using h1
  exact String.toList_inj.mp (map_toNat_inj h2)
theorem lookup_if {β : Type} (k a : Str) (b : β) (l : List (Str × β)) : List.lookup k ((a, b) :: l) = if k = a then some b else List.lookup k l := by
  rw [List.lookup_cons]
  by_cases h : k = a
  · subst h
    simp
  · have : (k == a) = false := by simpa using h
    rw [this, if_neg h]
/-! ### the mirror: a saying, a wood -/
structure Row where
  who : Str
  under : Int
  text : Str
  time : Int
  votes : List (Str × Int)
  struck : Bool
def Row.ups (r : Row) : Int := ((r.votes.filter fun p => decide (0 < p.2)).length : Nat)
def Row.downs (r : Row) : Int := ((r.votes.filter fun p => decide (p.2 < 0)).length : Nat)
def Row.points (r : Row) : Int := r.ups - r.downs
def Row.told (r : Row) : Option Str := if r.struck then none else some r.text
inductive Er where
  | name | no | text | full | yours | number | deed | nothing | kin
  deriving DecidableEq
def Er.cls : Er → Str
  | .name => "BadName" | .no => "NoSaying" | .text => "BadText" | .full => "Full" | .yours => "NotYours" | .number => "BadNumber" | .deed => "BadDeed" | .nothing => "Nothing" | .kin => "NotKin"
/-- the wish of a refusal -/
abbrev Bad (K : PySem.W.Frag) (E : XK) (e : Er) (H : Hp) : Prop := E (.ref (He.ga K e.cls)) none H
def sayFs (r : Row) (v : Addr) : List (Str × V) := [("by", .str r.who), ("under", .int r.under), ("text", .str r.text), ("time", .int r.time), ("votes", .ref v), ("is_struck", .bl r.struck)]
def woodFs (d : Addr) (c k : Int) : List (Str × V) := [("sayings", .ref d), ("came", .int c), ("clock", .int k)]
section
variable (r : Row) (v d : Addr) (c k : Int)
theorem fs_by : (sayFs r v).lookup (Str.ofString "by") = some (.str r.who) := by simp [sayFs, lookup_if, ofString_inj]
theorem fs_under : (sayFs r v).lookup (Str.ofString "under") = some (.int r.under) := by simp [sayFs, lookup_if, ofString_inj]
theorem fs_text : (sayFs r v).lookup (Str.ofString "text") = some (.str r.text) := by simp [sayFs, lookup_if, ofString_inj]
theorem fs_time : (sayFs r v).lookup (Str.ofString "time") = some (.int r.time) := by simp [sayFs, lookup_if, ofString_inj]
theorem fs_votes : (sayFs r v).lookup (Str.ofString "votes") = some (.ref v) := by simp [sayFs, lookup_if, ofString_inj]
theorem fs_struck : (sayFs r v).lookup (Str.ofString "is_struck") = some (.bl r.struck) := by simp [sayFs, lookup_if, ofString_inj]
theorem fs_ups : (sayFs r v).lookup (Str.ofString "ups") = none := by simp [sayFs, lookup_if, ofString_inj]
theorem fs_downs : (sayFs r v).lookup (Str.ofString "downs") = none := by simp [sayFs, lookup_if, ofString_inj]
theorem fs_points : (sayFs r v).lookup (Str.ofString "points") = none := by simp [sayFs, lookup_if, ofString_inj]
theorem fp_text (t : Str) : putF (Str.ofString "text") (.str t) (sayFs r v) = sayFs { r with text := t } v := by simp [sayFs, putF, ofString_inj]
theorem fp_struck (b : Bool) : putF (Str.ofString "is_struck") (.bl b) (sayFs r v) = sayFs { r with struck := b } v := by simp [sayFs, putF, ofString_inj]
theorem fp_votes (u : Addr) (vs : List (Str × Int)) : putF (Str.ofString "votes") (.ref u) (sayFs r v) = sayFs { r with votes := vs } u := by simp [sayFs, putF, ofString_inj]
theorem fs_len : (sayFs r v).length = 6 := rfl
theorem fw_sayings : (woodFs d c k).lookup (Str.ofString "sayings") = some (.ref d) := by simp [woodFs, lookup_if, ofString_inj]
theorem fw_came : (woodFs d c k).lookup (Str.ofString "came") = some (.int c) := by simp [woodFs, lookup_if, ofString_inj]
theorem fw_clock : (woodFs d c k).lookup (Str.ofString "clock") = some (.int k) := by simp [woodFs, lookup_if, ofString_inj]
theorem fpw_came (z : Int) : putF (Str.ofString "came") (.int z) (woodFs d c k) = woodFs d z k := by simp [woodFs, putF, ofString_inj]
theorem fpw_clock (z : Int) : putF (Str.ofString "clock") (.int z) (woodFs d c k) = woodFs d c z := by simp [woodFs, putF, ofString_inj]
theorem fw_len : (woodFs d c k).length = 3 := rfl
end
theorem fw_no (d : Addr) (c k : Int) {m : String} (h1 : m ≠ "sayings") (h2 : m ≠ "came") (h3 : m ≠ "clock") : (woodFs d c k).lookup (Str.ofString m) = none := by
  simp [woodFs, lookup_if, ofString_inj, h1, h2, h3]
/-! ### names and texts -/
def small : List Nat := (Str.ofString "abcdefghijklmnopqrstuvwxyz").cps.toList
def nameZ (z : Str) : Bool := decide (1 ≤ z.length) && decide (z.length ≤ 6) && z.cps.toList.all fun c => decide (c ∈ small)
def signOk (c : Nat) : Bool := decide (32 ≤ c) && decide (c ≤ 126) && decide (c ≠ 37)
def textZ (z : Str) : Bool := decide (1 ≤ z.length) && decide (z.length ≤ 30) && z.cps.toList.all signOk
def nameOk : PyData → Bool
  | .str z => nameZ z
  | _ => false
def textOk : PyData → Bool
  | .str z => textZ z
  | _ => false
/-- a text is not too long for the machine -/
def Short : PyData → Prop
  | .str z => z.length < sizeLine
  | _ => True
def isCount (d : PyData) (lo hi : Int) : Bool := match d with
  | .int i => decide (lo ≤ i) && decide (i ≤ hi)
  | _ => false
end Vw
namespace Vw
open PySem PySem.Spec PyProof.Rows L2 HotX
/-! ### lists walked while an exception is handled -/
section
variable {prog : Program} {w : World} {A : Around} {E : Value → Shared → Prop} {s : Shared}
theorem list_end_hot {it l x1 : Addr} {i : Nat} {items : Array Value} {Q : Option Value → Shared → Prop} (hot : HotAt A x1 s.heap) (hne : x1 ≠ it) (hit : s.heap.IsListIter it l i) (hl : s.heap.IsList l items) (hx : items[i]? = none)
    (hQ : ∀ h', (∀ b o, b ≠ it → s.heap.get? b = some o → h'.get? b = some o) → Q none { s with heap := h' }) : wpAny (model prog w) A (pyNext (.ref it)) Q E s := by
  have ty := hit.typeIs
  obtain ⟨oi, gi, ci, di⟩ := hit
  obtain ⟨ol, gl, cl, n, dl⟩ := hl
  obtain ⟨hh, o1, v1, g1, d1, c1⟩ := hot
  unfold pyNext
  refine wpAny_bind (wpAny_attempt (wpAny_callSpecial?_slot (name := Str.ofString "__next__") ty slot_listiter_next (wpAny_call_entry slot_listiter_next ty entry_listiter_next ?_ (args_listiter_next _))))
  show wpAny (model prog w) _ (field (Value.ref it) 0 >>= _) _ _ _
  refine wpAny_bind (wpAny_field gi di (x := Value.ref l) rfl ?_)
  have nn : ¬ ((Value.ref l == Value.none) = true) := by
    intro z
    exact Bool.noConfusion z
  show wpAny (model prog w) _ (ite ((Value.ref l == Value.none) = true) _ _) _ _ _
  rw [if_neg nn]
  show wpAny (model prog w) _ (field (Value.ref it) 1 >>= _) _ _ _
  refine wpAny_bind (wpAny_field gi di (x := Value.int i 0) rfl ?_)
  show wpAny (model prog w) _ (seqItems? (Value.ref l) >>= _) _ _ _
  refine wpAny_bind (wpAny_seqItems gl dl ?_)
  simp only [hx, Int.toNat_natCast]
  refine wpAny_bind (wpAny_rule (wpAny_bind (wpAny_setField gi di (by simp) ?_)))
  show wpAny (model prog w) _ (newExc (Value.type "StopIteration") [] >>= _) _ _ _
  refine wpAny_bind ?_
  simp only [newTuple, newExc]
  refine wpAny_bind (wpAny_newObj_type (hd := by size_fits) ?_)
  refine wpAny_bind (m := firstArgMember _ _) (wpAny_of_eq (a := Value.none) (by first | rfl | (simp only [firstArgMember]; rfl)) (wpAny_newObj_type (hd := by size_fits) ?_))
  have g1' : (s.heap.update it (Obj.mapFields (·.setIfInBounds 0 Value.none))).get? x1 = some o1 := (Heap.get?_update_other _ _ (Ne.symm hne)).trans g1
  refine raiseNew_hot ⟨hh, o1, v1, Heap.get?_push_of_some _ (Heap.get?_push_of_some _ g1'), d1, c1⟩ (Nat.ne_of_lt (Heap.lt_size (Heap.get?_push_of_some _ g1'))) (Heap.get?_push_size _ rfl) rfl (by first | (simp; done) | (simp; omega)) ?_
  refine wpAny_bind (wpAny_isInstance (T := "StopIteration") (b := true) ⟨_, Heap.get?_update_self _ (Heap.get?_push_size _ rfl) rfl, rfl⟩ isSubtype_stop (wpAny_pure (hQ _ fun b o hb e => ?_)))
  have e' : (s.heap.update it (Obj.mapFields (·.setIfInBounds 0 Value.none))).get? b = some o := (Heap.get?_update_other _ _ (Ne.symm hb)).trans e
  exact (Heap.get?_update_other _ _ (Nat.ne_of_gt (Heap.lt_size (Heap.get?_push_of_some _ e')))).trans (Heap.get?_push_of_some _ (Heap.get?_push_of_some _ e'))
end
/-- the walk over a list, the handled exception at x1 beside it -/
theorem walks_hot {prog : Program} {w : World} {A : Around} {x1 : Addr} {o1 : Obj} {v1 : Array Value} (hh : A.handled = some (.ref x1)) (d1 : o1.data = .fields v1) (c1 : v1[2]? = some .none) (I ax : Addr) (hne : ax ≠ I) (hx : x1 ≠ I) (items : Array Value) :
    Walks prog w A I [I, ax, x1] [I] items.size (fun i v => items[i]? = some v) (fun i h => h.IsListIter I ax i ∧ h.IsList ax items ∧ h.get? x1 = some o1) where
  sub := fun b hb => by
    have e : b = I := by simpa using hb
    simp [e]
  frame := fun i h h' st k => ⟨st.1.at fun o e => k I (by simp) o e, st.2.1.at fun o e => k ax (by simp) o e, k x1 (by simp) o1 st.2.2⟩
  item := fun i s Q E hi st hQ => by
    have hg : items[i]? = some items[i] := by simp [hi]
    refine wpAny_pyNext_list_item st.1 st.2.1 (x := items[i]) hg fun h' it' sb => ?_
    exact hQ _ h' s.toks hg ⟨it', st.2.1.extBut sb.extBut hne, sb.extBut x1 o1 hx st.2.2⟩ fun b o hb e => sb.extBut b o (fun z => hb (by simp [z])) e
  done := fun s Q E st hQ => list_end_hot ⟨hh, o1, v1, st.2.2, d1, c1⟩ hx st.1 st.2.1 (by simp) fun h' k => hQ h' s.toks fun b o hb e => k b o (fun z => hb (by simp [z])) e
  self := fun i s Q E st hQ => wpAny_pyIter_listiter st.1 hQ
/-- its iterator, new -/
theorem iter_hot {prog : Program} {w : World} {A : Around} {E : Value → Shared → Prop} {s : Shared} {l x1 : Addr} {items : Array Value} {o1 : Obj} {Q : Value → Shared → Prop} (hl : s.heap.IsList l items) (g1 : s.heap.get? x1 = some o1)
    (h : ∀ s2 : Shared, s2 = { s with heap := s.heap.push { cls := .type "list_iterator", data := .fields #[.ref l, .int 0 0] } } → (s2.heap.IsListIter s.heap.objs.size l 0 ∧ s2.heap.IsList l items ∧ s2.heap.get? x1 = some o1) →
      (∀ b ∈ [s.heap.objs.size, l, x1], b < s2.heap.objs.size) → l ≠ s.heap.objs.size → x1 ≠ s.heap.objs.size → Q (.ref s.heap.objs.size) s2) : wpAny (model prog w) A (pyIter (.ref l)) Q E s := by
  have l1 : l < s.heap.objs.size := by
    obtain ⟨_, e, _⟩ := id hl
    exact Heap.lt_size e
  have l2 : x1 < s.heap.objs.size := Heap.lt_size g1
  refine wpAny_pyIter_list hl (h _ rfl ⟨⟨_, Heap.get?_push_size _ rfl, rfl, rfl⟩, hl.push _, Heap.get?_push_of_some _ g1⟩ (fun b hb => ?_) (Nat.ne_of_lt l1) (Nat.ne_of_lt l2))
  have e : b = s.heap.objs.size ∨ b = l ∨ b = x1 := by simpa using hb
  show b < (s.heap.push _).objs.size
  rw [Heap.size_push]
  rcases e with e | e | e
  · rw [e]
    exact Nat.lt_succ_self _
  · rw [e]
    exact Nat.lt_succ_of_lt l1
  · rw [e]
    exact Nat.lt_succ_of_lt l2
/-- sum of a list of ints, while an exception is handled -/
theorem sum_hot {prog : Program} {w : World} {A : Around} {E : Value → Shared → Prop} {s : Shared} {a x1 : Addr} {its : List Value} {ns : List Int} {o1 : Obj} {v1 : Array Value} {Q : Value → Shared → Prop} (hh : A.handled = some (.ref x1)) (g1 : s.heap.get? x1 = some o1)
    (d1 : o1.data = .fields v1) (c1 : v1[2]? = some .none) (hl : s.heap.IsList a its.toArray) (hi : IntsAre its ns) (h : ∀ h' tk t', (∀ b o, s.heap.get? b = some o → h'.get? b = some o) → Q (.int ns.sum t') { s with heap := h', toks := tk }) :
    wpAny (model prog w) A (call (.builtin "sum") [.ref a]) Q E s := by
  obtain ⟨xs, e⟩ := hi.allInts.items
  have en := hi.numsOf
  rw [show its = its.toArray.toList from rfl, e, nums_intItems] at en
  rw [e] at hl
  refine call_sum_walkG (iter_hot hl g1 fun s2 e2 st lt n1 n2 => ?_)
  subst e2
  refine ⟨_, _, _, _, _, _, numAt xs, rfl, walks_hot (A := A.in1) hh d1 c1 _ a n1 n2 (intItems xs), st, lt, fun i v => intItems_at, fun h' tk t' k => ?_⟩
  have es : preSum (numAt xs) (intItems xs).size = ns.sum := by
    rw [preSum_eq, List.take_of_length_le (by simp [intItems]), en]
  rw [es]
  exact h h' tk t' fun b o e => k b o (fun z => Nat.lt_irrefl _ (Nat.lt_of_lt_of_eq (Heap.lt_size e) (List.mem_singleton.mp z).symm)) (Heap.get?_push_of_some _ e)
section
variable {X : Cx}
/-- sum([int(x) for x in flags]), while an exception is handled -/
def n01 (b : Bool) : Int := if b = true then 1 else 0
def tSumF (K : PySem.W.Frag) (ta : TE) : TE := fun σ H Q => ta σ H fun v H1 => ∃ (a : Addr) (bs : List Bool), v = .ref a ∧ SqL K H1 a (bs.map .bl) ∧ Q (.int (bs.map n01).sum) H1
theorem paired_flags : ∀ {bs : List Bool} {us ys : List Value}, Vals (bs.map V.bl) us → Paired (fun (u y : Value) => ∃ b t, u = Value.bool b ∧ y = Value.int (n01 b) t) us ys → Vals ((bs.map n01).map V.int) ys
  | [], _, _, .nil, .nil => .nil
  | b :: bs, _, _, .cons r rs, .cons f fs => by
    obtain ⟨c, t, e1, e2⟩ := f
    have r : _ = Value.bool b := r
    rw [e1] at r
    cases r
    exact .cons ⟨t, e2⟩ (paired_flags rs fs)
theorem pe_sumflags {x : Str} {iter : Expr} {ta : TE} {q0 pos0 q px px2 cp pos : Pos} {scope : Scope} (c : L2H.HotC X) (hi : PE X iter ta) (hsum : X.mg "sum" = none) (hm : X.mg "int" = none) (hg : Gl X "sum")
    (hfree : ∀ y ∈ scope.names, y.2 ≠ .free) (hcell : ∀ y ∈ scope.names, y.2 ≠ .cell) (hkind : scope.kind = .function) (hnames : ∀ y ∈ scope.names, y.2 = .local → scope.names.lookup y.1 = some .local) (hx : scope.names.lookup x = some .local)
    (hgl : (relabel scope X.env).names.lookup ("int" : Str) = some NameKind.globalImplicit) (hd : (x == ("__debug__" : Str)) = false := by decide) (hs : ∀ x, foldedSetIterable iter X.env x = pure x := by intro _; rfl) :
    PE X (.Call (.Name "sum" q0) [.ListComp (.Call (.Name "int" q) [.Name x px2] [] cp) [⟨.Name x px, iter, [], 0⟩] scope pos] [] pos0) (tSumF X.K ta) := by
  refine ⟨fun pins s σ H Q I h => ?_⟩
  obtain ⟨p, ⟨hh, v1, d1, c1⟩, hp⟩ := c
  refine wpAny_Call_Name_kw (ld_blt I hg hsum (by decide +kernel : bootBuiltins "sum" = some (.builtin "sum")) (PyProof.Rows.callWith_builtin1 (Calls.spliced_cons ?_) rfl rfl))
  refine wpAny_ListComp_free (fun _ => true) (fun u y => ∃ b t, u = Value.bool b ∧ y = Value.int (n01 b) t) (closure_ok fun y hy e => absurd e (hfree y hy)) hcell hkind hnames hx (thn (hi.run pins s σ H _ I h) fun u s1 h1 => ?_) hs
  obtain ⟨v, H1, I1, r, a, bs, rfl, hq, q1⟩ := h1
  obtain rfl : u = Value.ref a := r
  obtain ⟨its, rv, hl, hz⟩ := I1.list hq
  have g1 := (I1.pin p (List.mem_append_left _ hp)).1
  refine iter_hot hl.isList g1 fun s2 e2 st lt n1 n2 => ?_
  subst e2
  have len := rv.length
  rw [List.length_map] at len hz
  have old : ∀ {h' : Heap}, (∀ b o, b ∉ [s1.heap.objs.size] → (s1.heap.push { cls := .type "list_iterator", data := .fields #[.ref a, .int 0 0] }).get? b = some o → h'.get? b = some o) → ∀ b o, s1.heap.get? b = some o → h'.get? b = some o := fun k b o e =>
    k b o (fun z => Nat.lt_irrefl _ (Nat.lt_of_lt_of_eq (Heap.lt_size e) (List.mem_singleton.mp z).symm)) (Heap.get?_push_of_some _ e)
  refine ⟨_, _, _, _, _, _, rfl, walks_hot hh d1 c1 _ a n1 n2 its.toArray, by simp; omega, st, lt, ⟨fun C i v s3 m3 E' _ _ _ _ _ _ => ?_, fun C i v s3 m3 E' _ hP _ hn hv k _ => ?_⟩, fun D h' tk ys vs hD hL hPl hlen hP hF k => ?_⟩
  · exact wpAny_pure ⟨rfl, s3.heap, s3.toks, rfl, fun _ _ e => e⟩
  · obtain ⟨b, hb⟩ : ∃ b, v = Value.bool b := by
      have hP : its.toArray[i]? = some v := hP
      rw [List.getElem?_toArray] at hP
      obtain ⟨hi, e⟩ := List.getElem?_eq_some_iff.mp hP
      have hi' : i < bs.length := by omega
      obtain ⟨u, eu, ru⟩ := Vals.get rv (i := i) (x := V.bl bs[i]) (by rw [List.getElem?_map, List.getElem?_eq_getElem hi']; rfl)
      rw [hP] at eu
      cases eu
      exact ⟨_, ru⟩
    subst hb
    have ks := old k
    have kb : ∀ b o, X.base.get? b = some o → s3.heap.get? b = some o := fun b o e => ks b o (I1.bk b o e)
    obtain ⟨mb, b1, b2⟩ := I1.mod.blt
    have hkd : (compEnvC scope (cloFrom X.env.cells scope.names []) C X.env).scope.kind = .function := hkind
    refine Call_ (Calls.Name_function_global hkd hgl (Calls.loadGlobal_builtin (mg := X.mg) (mb := mb) (by show s3.heap.Ns X.env.globals _; rw [I1.ok.glob]; exact I1.mod.glob.keeps kb) hm (by show s3.heap.Ns X.env.builtins _; rw [I1.ok.blt]; exact b1.keeps kb)
      ((b2 "int" (by decide)).trans (by decide +kernel : bootBuiltins "int" = some (.type "int"))) (PyProof.Rows.callWith_type1 ?_ rfl rfl)) (by decide))
    refine Calls.spliced_cons (wpAny_Name (wpAny_loadName_local hkd (lookup_relabel_local hx) hn hv (Calls.spliced_nil (call_int_bool ?_))) hd)
    exact ⟨⟨b, s3.toks, rfl, rfl⟩, s3.heap, _, rfl, fun _ _ e => e⟩
  · have ks := old k
    have hF : Paired (fun u y => ∃ b t, u = Value.bool b ∧ y = Value.int (n01 b) t) (vs.filter fun _ => true) ys.toList := hF
    have ev : vs = its := by
      refine List.ext_getElem? fun j => ?_
      by_cases hj : j < vs.length
      · have e := hP j vs[j] (by simp [hj])
        rw [List.getElem?_toArray] at e
        rw [e]
        simp [hj]
      · rw [List.getElem?_eq_none (by omega), List.getElem?_eq_none (by simp at hlen; omega)]
    have e1 : vs.filter (fun _ => true) = vs := by simp
    rw [e1, ev] at hF
    have rel := paired_flags rv hF
    refine Calls.spliced_nil (sum_hot hh (ks _ _ g1) d1 c1 (its := ys.toList) (by simpa using hL) rel.ints fun h2 tk2 t2 k2 => ?_)
    exact ⟨.int _, H1, I1.kept (h' := h2) (t' := tk2) fun b o e => k2 b o (ks b o e), ⟨_, rfl⟩, q1⟩
end
end Vw
namespace Vw
open PySem PySem.Spec PyProof.Rows L2 HotX
/-! ### a def called in an except suite with the handled exception as an argument -/
section
variable {P : Program} {w : World} {K : PySem.W.Frag} {mg : Str → Option Value} {base : Heap}
theorem hot_run {CX : CXT} {x qual : Str} {st : Stmt} {f : Addr} {N ps : List Str} {k : Nat} {fd : FuncData} {A : Around} {outer : List Env} {s : Shared} {H : Hp} {us : List Value} {vs : List V} {Q : VK} {E : XK} {p : Addr × Obj}
    (F : FunD K x qual (defArgs st) (defBody st) (defScope st) [] [] f fd) (S : FnScope N ps (defScope st)) (hb : BindEq x qual st ps) (hr : L2H.RoomH (k + 1) A) (hp : L2H.PinOk outer H s p) (e0 : Env0 P w K mg base A outer s H) (r : Vals vs us) (hl : vs.length = ps.length)
    (body : ∀ cdv : Value, L2H.RoomH k (A.deeper (envOfC qual (defScope st) s.heap.objs.size f cdv)) → ∃ t, PSs (L2H.cxH CX P w K mg base N qual (defScope st) f cdv A outer s H E p) (defBody st) t ∧ t { nx := fun _ H' => Q .non H', rt := Q } (L2.start N vs) H) :
    codeAny (model P w) A (.call (.ref f) ⟨us, []⟩) (CR CX outer P w H s Q E) s := by
  have KX : K.In s.heap := e0.mod.kin.keeps fun b o e => (e0.bs b o e).1
  have BT := F.bindsN hb s us KX (by rw [List.append_nil, ← r.length]; exact hl)
  rw [List.append_nil] at BT
  obtain ⟨oc, od, dV, kV, doc, pm, an, cdv, ct, osl, rfl, lk, hcd, _, _⟩ := F.ex
  obtain ⟨t, ht, hq⟩ := body cdv (hr.deeper _)
  have lim := e0.mod.nolimit.keeps fun b o e => (e0.bs b o e).1
  have kinds : ∀ y ∈ ps.zip us, (defScope st).names.lookup y.1 = some .local ∨ ((defScope st).names.lookup y.1 = some .cell ∧ ((cellsFrom (s.heap.objs.size + 1) (defScope st).names []).lookup y.1).isSome = true) := fun y hy =>
    (S.par y.1 (List.of_mem_zip (a := y.1) (b := y.2) hy).1).elim .inl fun c => .inr ⟨c, PySem.W.cellsFrom_some _ _ _ (.inl c)⟩
  refine codeAny_call_function hr.depth (KX _ _ lk) rfl S.co S.gen rfl (PySem.W.codeRec_of KX hcd) (BT _ _ _ _ (wpAny_newFunctionEnv_cells S.kind kinds fun env he s1 x1 => ?_))
  subst he
  refine ⟨lim.keeps x1.toInCall.keep, codeAny_func (wpAny_mono (ht.run [] s1 (L2.start N vs) H _ (L2H.inv_startH S hp e0 hl r x1) hq) (fun fl s' h' => ?_) fun _ _ z => z)⟩
  cases fl with
  | brk => exact h'.elim fun _ z => z.elim fun _ z => False.elim z.2
  | cont => exact h'.elim fun _ z => z.elim fun _ z => False.elim z.2
  | next =>
    obtain ⟨σ', H', J, z⟩ := h'
    exact ⟨V.non, H', J.os, J.bare, J.base, J.hok, rfl, z⟩
  | ret u =>
    obtain ⟨v, σ', H', J, rv, z⟩ := h'
    exact ⟨v, H', J.os, J.bare, J.base, J.hok, rv, z⟩
/-- x(e), e the handled exception at slot i; what it promises is told by sp -/
def HotSp := Addr × Obj → Hp → VK → Prop
def HotFn (P : Program) (w : World) (K : PySem.W.Frag) (mg : Str → Option Value) (base : Heap) (k : Nat) (f : Addr) (sp : HotSp) : Prop :=
  ∀ (A : Around) (outer : List Env) (s : Shared) (H : Hp) (Q : VK) (p : Addr × Obj), L2H.RoomH k A → L2H.Hot1 A p → L2H.PinOk outer H s p → Env0 P w K mg base A outer s H → sp p H Q → codeAny (model P w) A (.call (.ref f) ⟨[.ref p.1], []⟩) (CR (L2N.CX P w) outer P w H s Q E0) s
theorem pe_hot {X : Cx} {f : Addr} {x y : Str} {k i : Nat} {sp : HotSp} {p : Addr × Obj} {q q2 pos : Pos} (F : HotFn X.prog X.w X.K X.mg X.base k f sp) (hr : L2H.RoomH k X.A) (hot : L2H.Hot1 X.A p) (hp : p ∈ X.pn) (hm : X.mg x = some (.ref f)) (hk : PySem.W.keepIn X.K (.ref f) = true) (hN : X.N[i]? = some y) (hv : Vis X.env.scope y)
    (hg : Gl X x := by rfl) (hdb : (x == ("__debug__" : Str)) = false := by decide) (hd : (y == ("__debug__" : Str)) = false := by decide) (hcd : (y == ("__classdict__" : Str)) = false := by decide) :
    PE X (.Call (.Name x q) [.Name y q2] [] pos) (fun σ H Q => σ[i]? = some (some (.ref p.1)) ∧ sp p H Q) := by
  refine ⟨fun pins s σ H Q I h => ?_⟩
  obtain ⟨hi, h⟩ := h
  have ha : PA X [.Name y q2] (tCons (tVar i) tNil) := pa_cons (pe_var hN hv hd hcd) pa_nil
  refine wpAny_Call_Name_kw (ld_glob I hg hm (PySem.W.callWith_K (h₀ := X.base) I.ok.mod.kin hk (thn (ha.run pos pins s σ H (fun vs H1 => vs = [.ref p.1] ∧ H1 = H) I ⟨_, hi, rfl, rfl⟩) fun us s1 h1 => ?_) rfl rfl) hdb)
  obtain ⟨vs, H1, I1, r, rfl, rfl⟩ := h1
  refine ⟨I1.kIn, ?_⟩
  cases r with
  | cons r1 r2 =>
    cases r2
    cases r1
    have pn := I1.pin p (List.mem_append_left _ hp)
    have po : L2H.PinOk X.stack H1 s1 p := ⟨pn.1, pn.2.1, fun z => (List.mem_cons.mp (I1.stkSub p.1 z)).elim pn.2.2.1 pn.2.2.2.1, pn.2.2.2.2⟩
    refine wpAny_call (codeAny_mono (F X.A X.stack s1 H1 Q p hr hot po I1.env0 h) fun res s2 hq => ?_)
    match res, hq with
    | .ok (.ret u), hq => exact I1.after hq
    | .error e, hq => exact passF pins σ H1 s1 e s2 I1 hq
/-- isinstance(e, c), e the exception at the pin -/
theorem cr_isP {X : Cx} {D : Addr} {p : Addr × Obj} (C : ExcC X.K D) (hp : p ∈ X.pn) (h1 : p.2.cls = .ref D) (h2 : p.2.dict = none) (hf : ∃ vs, p.2.data = .fields vs) : CallR X (.builtin "isinstance") (rIsE X.K D p.1) := by
  intro pins s σ H xs us Q I r h
  obtain ⟨c, cv, b, rfl, hc, e, q⟩ := h
  match us, r with
  | [_, u2], .cons r1 (.cons r2 .nil) =>
    obtain rfl := hc _ r2
    obtain rfl : _ = Value.ref p.1 := r1
    have get := (I.pin p (List.mem_append_left _ hp)).1
    obtain ⟨vs, hd⟩ := hf
    have J : PySem.W.InstAt s.heap p.1 p.2 D none := by
      generalize p.2 = o at *
      cases o
      dsimp only at h1 h2 hd
      subst h1 h2 hd
      exact ⟨get, rfl, rfl, trivial⟩
    exact PySem.W.kia_one (PySem.W.handS_kitx_exc C.hg C.hk C.hs C.hd C.ha C.hn C.ht C.hm) I.kIn J e (fun z => nomatch z) fun tk => ⟨.bl b, H, I.kept (t' := tk) fun _ _ z => z, rfl, q⟩
end
end Vw
namespace Vw
open PySem PySem.Spec PyProof.Rows L2 HotX
/-! ### lambdas without parameters; exceptions whose context is None -/
def lamN (X : Cx) (A : Around) (outer : List Env) (s : Shared) (H : Hp) (E : XK) (scope : Scope) (f c : Addr) : Cx :=
  (LamX.lamCx X A outer s H E scope f c).tr [] fun e s' => wpAny (model X.prog X.w) (LamX.lamCx X A outer s H E scope f c).A (leaving (LamX.lamCx X A outer s H E scope f c).env e) (fun _ => L2N.CX X.prog X.w outer H s E e) (L2N.CX X.prog X.w outer H s E) s'
section
variable {X : Cx}
theorem takesL {A : Around} {outer : List Env} {s : Shared} {H : Hp} {E : XK} {scope : Scope} {f c : Addr} : L2N.Takes (lamN X A outer s H E scope f c) (fun cls d _ H' => E cls d H') := L2N.takes_of rfl rfl rfl rfl
theorem passL {A : Around} {outer : List Env} {s : Shared} {H : Hp} {E : XK} {scope : Scope} {f c : Addr} : Passes (L2N.CX (lamN X A outer s H E scope f c).prog (lamN X A outer s H E scope f c).w) (lamN X A outer s H E scope f c) E := L2N.passes_call takesL fun _ _ _ _ h => h
abbrev lamQ (X : Cx) : Str := X.env.qual ++ "<lambda>"
abbrev lamObj (X : Cx) (params : Arguments) (body : Expr) (scope : Scope) (pm ctv : Value) (c : Addr) : Obj := PySem.W.kla_obj "<lambda>" (lamQ X) params body scope (cloFrom X.env.cells scope.names []) pm c ctv
/-- the lambda called, in the def that got it -/
theorem act_n {CXg : CXT} {Eg E : XK} {Ng : List Str} {qg a : Str} {sg scope : Scope} {g f c : Addr} {cdg pm ctv : Value} {params : Arguments} {body : Expr} {k i : Nat} {pn pins : List (Addr × Obj)} {xe : Value → Shared → Prop} {W : WX} {tb : TE} {p1 p2 : Pos} {σ : L2.St} {H : Hp} {s : Shared}
    (I : Inv X pins σ H s) (L : LamX.LamS X.env.scope scope) (hf : s.heap.get? f = some (lamObj X params body scope pm ctv c)) (hfn : H f = none) (hfr : f ∉ frs X.stack)
    (hbind : bindArgs (PySem.W.kla_fn "<lambda>" (lamQ X) params body scope (cloFrom X.env.cells scope.names []) pm (.ref c) ctv) ⟨[], []⟩ = pure [])
    (tk : L2N.Takes ((cxOf CXg X.prog X.w X.K X.mg X.base Ng qg sg g cdg X.A X.stack s H Eg).tr pn xe) W) (hW : ∀ cls d σ' H', E cls d H' → W cls d σ' H') (hr : Room (k + 1) (X.A.deeper (envOfC qg sg s.heap.objs.size g cdg)))
    (hbody : ∀ (A : Around) (outer : List Env) (s : Shared) (H : Hp), Room k (A.deeper (LamX.lamEnv X scope s.heap.objs.size f c)) → PE (lamN X A outer s H E scope f c) body tb)
    (hN : Ng[i]? = some a) (hv : Vis sg a) (hd : (a == ("__debug__" : Str)) = false) (hcd : (a == ("__classdict__" : Str)) = false) :
    PE ((cxOf CXg X.prog X.w X.K X.mg X.base Ng qg sg g cdg X.A X.stack s H Eg).tr pn xe) (.Call (.Name a p1) [] [] p2) (fun σZ HZ Q => σZ[i]? = some (some (.ref f)) ∧ HZ c = some (LamX.CodeO c (lamQ X)) ∧ tb σ HZ Q) := by
  refine ⟨fun pinsZ sZ σZ HZ Q IZ h => ?_⟩
  have var := (pe_var (X := (cxOf CXg X.prog X.w X.K X.mg X.base Ng qg sg g cdg X.A X.stack s H Eg).tr pn xe) (pos := p1) (i := i) hN hv hd hcd).run pinsZ sZ σZ HZ (fun v H1 => v = .ref f ∧ H1 = HZ) IZ ⟨_, h.1, rfl, rfl⟩
  refine wpAny_Call_Name_kw (thn var fun u s1 h1 => ?_)
  obtain ⟨v, H1, I1, r1, rfl, rfl⟩ := h1
  obtain rfl : u = Value.ref f := r1
  have obj : s1.heap.get? f = some (lamObj X params body scope pm ctv c) := I1.base.keep f _ hf hfn hfr (by intro z; cases z)
  have un : Un (frs X.stack) [] H H1 s.heap s1.heap := I1.base
  obtain ⟨⟨oc, vs, t, hoc, hdc, hvc⟩, _⟩ := I1.hok c _ h.2.1
  have go : codeAny (model X.prog X.w) (X.A.deeper (envOfC qg sg s.heap.objs.size g cdg)) (.call (.ref f) ⟨[], []⟩) (CR (L2N.CX X.prog X.w) (envOfC qg sg s.heap.objs.size g cdg :: X.stack) X.prog X.w H1 s1 Q E) s1 := by
    refine PySem.W.kla_callFunE hr.depth obj rfl L.co L.gen rfl ⟨c, oc, vs, t, rfl, hoc, hdc, hvc⟩ ?_
    rw [hbind]
    refine wpAny_pure (wpAny_newFunctionEnv (fun y hy => (L.own y hy).2) (fun y hy => nomatch hy) (fun h2 ns sb => ⟨I1.nolimit.fresh _ sb, ?_⟩) L.kind)
    have kp : ∀ b o, s1.heap.get? b = some o → h2.get? b = some o := fun b o e => sb.extBut b o (Nat.ne_of_lt (Heap.lt_size e)) (Heap.get?_push_of_some _ e)
    have J := LamX.lam_start2 (f := f) (c' := c) (E := E) (tk := s1.toks + ([] : List (Str × Value)).length) I L I1.env0 hr.hd un ns kp
    refine PySem.W.kla_codeExpr (wpAny_mono ((hbody _ _ s1 H1 (hr.deeper _)).run [] _ σ H1 Q (J.toTry _) h.2.2) (fun v s' hq => ?_) fun _ _ z => z)
    obtain ⟨x, H', J', rv, q⟩ := hq
    exact ⟨x, H', J'.os, J'.bare, J'.base, J'.hok, rv, q⟩
  refine PySem.W.callWith_F0 ⟨_, _, _, _, obj⟩ (wpAny_call (codeAny_mono go fun res s' hq => ?_))
  match res, hq with
  | .ok (.ret u), hq => exact I1.after hq
  | .error e, hq => exact L2N.passes_call tk hW pinsZ σZ H1 s1 e s' I1 hq
theorem takes_len {W : WX} (tk : L2N.Takes X W) : L2N.Takes X (fun cls d σ H => σ.length = X.N.length → W cls d σ H) := fun u s' x => by
  obtain ⟨a, B, sI, pins, σ, H, cls, d, e, I, nb, up, sky, na, os, ag, z⟩ := x
  exact tk u s' ⟨a, B, sI, pins, σ, H, cls, d, e, I, nb, up, sky, na, os, ag, z I.len⟩
theorem pss_imp {ss : List Stmt} {t t' : TS} (h : PSs X ss t) (i : ∀ D σ H, t' D σ H → t D σ H) : PSs X ss t' := ⟨fun pins s σ H D I q => h.run pins s σ H D I (i D σ H q)⟩
theorem cxH_K {CX : CXT} {P : Program} {w : World} {K : PySem.W.Frag} {mg : Str → Option Value} {base : Heap} {N : List Str} {qual : Str} {sc : Scope} {f : Addr} {cd : Value} {A : Around} {outer : List Env} {s : Shared} {H : Hp} {E : XK} {p : Addr × Obj} :
    (L2H.cxH CX P w K mg base N qual sc f cd A outer s H E p).K = K := rfl
/-- what a refusal of the class x is told as -/
def Refu (x : Str) (H : Hp) (Q : VK) : Prop := ∀ r H', H r = none → Same H H' → H' r = some (.tup [.str "refused", .str x]) → Q (.ref r) H'
def spWord (K : PySem.W.Frag) (cs : List Str) : HotSp := fun p H Q => ∃ x ∈ cs, p.2.cls = .ref (He.ga K x) ∧ p.2.dict = none ∧ (∃ vs, p.2.data = .fields vs) ∧ Refu x H Q
def eTold (K : PySem.W.Frag) (cs : List Str) (Q : VK) : XK := fun cls d H => ∃ x ∈ cs, cls = .ref (He.ga K x) ∧ d = none ∧ Refu x H Q
def tTold (K : PySem.W.Frag) (cs : List Str) (T : List (Addr × Str)) (t : XK → TE) : TE := fun σ H Q => LamX.Tabs T H ∧ ∀ H1, LamX.ExtN H H1 → LamX.Tabs T H1 → t (eTold K cs Q) σ H1 Q
/-- told(lambda: body); told: try: return a() / except WoodError as e: return word(e) -/
theorem pe_told {T : List (Addr × Str)} {cs : List Str} {x a n wd we : Str} {st : Stmt} {g fw c P : Addr} {fd : FuncData} {k : Nat} {Ng : List Str} {params : Arguments} {body : Expr} {scope : Scope} {t : XK → TE} {p lpos pos p1 p2 p3 p4 p5 p6 p7 p8 p9 : Pos}
    (F : FunD X.K x x (defArgs st) (defBody st) (defScope st) [] [] g fd) (Sg : FnScope Ng [a] (defScope st)) (hb : BindEq x x st [a])
    (hbd : defBody st = [.Try [.Return (some (.Call (.Name a p1) [] [] p2)) p3] [.ExceptHandler (some (.Name we p4)) (some n) [.Return (some (.Call (.Name wd p5) [.Name n p6] [] p7)) p8] p9] [] [] p])
    (hm : X.mg x = some (.ref g)) (hwe : X.mg we = some (.ref (He.ga X.K "WoodError"))) (hwd : X.mg wd = some (.ref fw)) (hkw : PySem.W.keepIn X.K (.ref fw) = true) (Fw : HotFn X.prog X.w X.K X.mg X.base 2 fw (spWord X.K cs)) (hcs : ∀ x ∈ cs, PySem.W.exmOne X.K (.ref (He.ga X.K x)) (.ref (He.ga X.K "WoodError")) = some true)
    (hN0 : Ng[0]? = some a) (hva : Vis (defScope st) a) (hN1 : Ng[1]? = some n) (hvn : (defScope st).names.lookup n = some .local) (hgwe : (defScope st).names.lookup we = some .globalImplicit) (hgwd : (defScope st).names.lookup wd = some .globalImplicit) (hst : ∀ f : Addr, L2.start Ng [V.ref f] = [some (.ref f), none])
    (TB : LamX.TabB X.base X.mg c P) (hcode : X.env.code = .ref c) (hmT : (P, lamQ X) ∈ T) (hu : ∀ p ∈ T, p.1 = P → p.2 = lamQ X) (hr : Room (k + 4) X.A) (L : LamX.LamS X.env.scope scope) (hdef : defaultsOf params X.env = ([], []))
    (hbind : ∀ (q : Str) (cl : List (Str × Addr)) (pm cv ctv : Value), bindArgs (PySem.W.kla_fn "<lambda>" q params body scope cl pm cv ctv) ⟨[], []⟩ = pure [])
    (hbody : ∀ (A : Around) (outer : List Env) (s : Shared) (H : Hp) (E : XK) (f c' : Addr), Room (k + 2) (A.deeper (LamX.lamEnv X scope s.heap.objs.size f c')) → PE (lamN X A outer s H E scope f c') body (t E))
    (hg : Gl X x := by rfl) (hdb : (x == ("__debug__" : Str)) = false := by decide) (hd : (a == ("__debug__" : Str)) = false := by decide) (hcd : (a == ("__classdict__" : Str)) = false := by decide)
    (hdw : (we == ("__debug__" : Str)) = false := by decide) (hdd : (wd == ("__debug__" : Str)) = false := by decide) (hn1 : (n == ("__debug__" : Str)) = false := by decide) (hn2 : (n == ("__classdict__" : Str)) = false := by decide) {q0 : Pos} :
    PE X (.Call (.Name x q0) [.Lambda params body scope lpos] [] pos) (tTold X.K cs T t) := by
  refine ⟨fun pins s σ H Q I h => ?_⟩
  obtain ⟨hT, h⟩ := h
  refine wpAny_Call_Name_kw (ld_glob I hg hm (PySem.W.callWith_K (h₀ := X.base) I.ok.mod.kin F.kp ?_ (by rfl) (by rfl)) hdb)
  refine Calls.spliced_cons (LamX.lam_make2 I TB hcode hmT hu hT hdef (L.has I.ok) fun f c1 pm ctv H1 s1 I1 eN T1 hf hfn hfr hco => Calls.spliced_nil ⟨I1.kIn, ?_⟩)
  have q1 := h H1 eN T1
  have BT := F.bindsN hb s1 [.ref f] I1.kIn rfl
  obtain ⟨oc, od, dV, kV, doc, pm2, an, cdv, ct, osl, rfl, lk, hcd2, _, _⟩ := F.ex
  have run : codeAny (model X.prog X.w) X.A (.call (.ref g) ⟨[.ref f], []⟩) (CR (L2N.CX X.prog X.w) X.stack X.prog X.w H1 s1 Q E0) s1 := by
    refine LamX.run_ofS (k := k + 3) (N := Ng) (ps := [a]) (us := [.ref f]) (vs := [.ref f]) lk hcd2 Sg hr I1.env0 BT (.cons rfl .nil) rfl fun hr2 => ?_
    rw [hbd]
    refine ⟨_, pss_one (L2N.ps_try_as (X := cxN X.prog X.w X.K X.mg X.base Ng x (defScope st) g cdv X.A X.stack s1 H1 E0) (c := .ref (He.ga X.K "WoodError")) (i := 1) (Wout := fun cls d _ H' => E0 cls d H')
      (tb := fun W D σZ HZ => ∃ E : XK, (∀ cls d (σ' : L2.St) H', E cls d H' → σ'.length = Ng.length → W cls d σ' H') ∧ σZ[0]? = some (some (.ref f)) ∧ HZ c1 = some (LamX.CodeO c1 (lamQ X)) ∧ t E σ HZ D.rt)
      (ts := fun a cls d D σZ HZ => σZ[1]? = some (some (.ref a)) ∧ ∃ x ∈ cs, cls = .ref (He.ga X.K x) ∧ d = none ∧ Refu x HZ D.rt)
      rfl rfl Sg.nd hN1 hvn ⟨hgwe, hdw, .inl hwe⟩ takesE (fun W pn xe tk _ => ?_) (fun ax oe cls d pn hz hfd => ?_)), ?_⟩
    · refine ⟨fun pins2 s2 σ2 H2 D I2 h2 => ?_⟩
      obtain ⟨E, hW, e1, e2, e3⟩ := h2
      exact (pss_one (ps_ret (act_n (p1 := p1) (p2 := p2) (i := 0) I1 L hf hfn hfr (hbind _ _ _ _ _) (takes_len tk) hW hr2 (fun A outer s H hr3 => hbody A outer s H E f c1 hr3) hN0 hva hd hcd))).run pins2 s2 σ2 H2 D I2 ⟨e1, e2, e3⟩
    · have ctx : ∃ vs : Array Value, oe.data = .fields vs ∧ vs[2]? = some Value.none := by
        obtain ⟨vs, e⟩ := hfd
        exact ⟨vs, e, hz.2.2 vs e⟩
      refine pss_imp (pss_one (ps_ret (pe_hot (i := 1) (p := (ax, oe)) Fw ?_ ⟨rfl, ctx⟩ List.mem_cons_self hwd hkw hN1 (.inl hvn) hgwd hdd hn1 hn2))) fun D σ2 H2 hq => ?_
      · have a1 := hr2.dp
        have a2 := hr2.un
        refine ⟨?_, ?_⟩
        · show (X.A.deeper (envOfC x (defScope st) s1.heap.objs.size g cdv)).depth + 3 * 2 + 5 < recursionLimit
          omega
        · show (X.A.deeper (envOfC x (defScope st) s1.heap.objs.size g cdv)).units + 16 * 2 + 200 < cLine
          omega
      · obtain ⟨e1, x, hx, e2, e3, e4⟩ := hq
        exact ⟨e1, x, hx, hz.1.trans e2, hz.2.1.trans e3, hfd, e4⟩
    · refine ⟨eTold X.K cs Q, fun cls d σ' H' z hlen => ?_, by rw [hst]; rfl, hco, q1⟩
      obtain ⟨x, hx, rfl, rfl, e⟩ := z
      refine ⟨true, hcs x hx, fun _ ax nax => ⟨?_, x, hx, rfl, rfl, e⟩, fun z => by cases z⟩
      have l2 : 1 < σ'.length := by
        rw [hlen]
        exact (List.getElem?_eq_some_iff.mp hN1).1
      simp [l2]
  refine wpAny_call (codeAny_mono run fun res s2 hq => ?_)
  match res, hq with
  | .ok (.ret u), hq => exact I1.after hq
  | .error e, hq => exact passF pins σ H1 s1 e s2 I1 hq
end
end Vw
namespace Vw
open PySem PySem.Spec PyProof.Rows L2
/-! ### rules that forget all of a new object but that the rest stays -/
def tMon (t : TA) : TA := fun σ H Q => ∃ R, t σ H R ∧ ∀ vs H1, R vs H1 → Q vs H1
section
variable {X : Cx} {es : List Expr} {t : TA} {e : Expr} {te te' : TE} {pos : Pos}
theorem pa_mon (h : PA X es t) : PA X es (tMon t) := ⟨fun pos pins s σ H Q I z => by
  obtain ⟨R, h1, h2⟩ := z
  exact thn (h.run pos pins s σ H R I h1) fun us s1 ⟨vs, H1, I1, r, q⟩ => ⟨vs, H1, I1, r, h2 vs H1 q⟩⟩
theorem pe_imp (h : PE X e te) (i : ∀ σ H Q, te' σ H Q → te σ H Q) : PE X e te' := ⟨fun pins s σ H Q I z => h.run pins s σ H Q I (i σ H Q z)⟩
def New (o : HO) (H : Hp) (Q : VK) : Prop := ∀ p H', H p = none → Same H H' → H' p = some o → Q (.ref p) H'
theorem New.use {o : HO} {H : Hp} {Q : VK} (h : New o H Q) : ∀ p, H p = none → Q (.ref p) (upd H p o) := fun p n => h p _ n (Same.new n) upd_same
def tTupS (t : TA) : TE := fun σ H Q => t σ H fun xs H1 => xs.length ≤ sizeLine ∧ New (.tup xs) H1 Q
def tLstS (t : TA) : TE := fun σ H Q => t σ H fun xs H1 => xs.length ≤ sizeLine ∧ New (.lst xs) H1 Q
theorem pe_tupS {x1 : Nat} (h : PA X es t) : PE X (.Tuple es x1 pos) (tTupS t) := pe_imp (pe_tup (pa_mon h)) fun σ H Q z => ⟨_, z, fun vs H1 q => ⟨q.1, q.2.use⟩⟩
theorem pe_lstS (h : PA X es t) : PE X (.List es pos) (tLstS t) := pe_imp (pe_lst (pa_mon h)) fun σ H Q z => ⟨_, z, fun vs H1 q => ⟨q.1, q.2.use⟩⟩
def tDNewKS : TE := fun _ H Q => New (.dK []) H Q
def tDNewTS : TE := fun _ H Q => New (.dT []) H Q
theorem pe_dnewKS : PE X (.Dict [] [] pos) tDNewKS := pe_imp pe_dnewK fun σ H Q z => z.use
theorem pe_dnewTS : PE X (.Dict [] [] pos) tDNewTS := pe_imp pe_dnewT fun σ H Q z => z.use
def rCatN : R2 := fun x y H Q => ∃ l b xs zs, x = .ref l ∧ y = .ref b ∧ H l = some (.lst xs) ∧ H b = some (.lst zs) ∧ xs.length + zs.length ≤ sizeLine ∧ New (.lst (xs ++ zs)) H Q
theorem op_catN : OpR X (binaryOp .Add) rCatN := fun pins s σ H x y v u Q I rx ry h => by
  obtain ⟨l, b, xs, zs, h1, h2, h3, h4, h5, h6⟩ := h
  exact op_cat pins s σ H x y v u Q I rx ry ⟨l, b, xs, zs, h1, h2, h3, h4, h5, h6.use⟩
def rSlN (K : PySem.W.Frag) : V → Option Int → Option Int → Hp → VK → Prop := fun x lo hi H Q => ∃ a xs, x = .ref a ∧ SqL K H a xs ∧ New (.lst (cutV xs lo hi)) H Q
theorem sl_listN : SlR X (rSlN X.K) := fun pins s σ H x v vl vu lo hi sl Q I rx hs pl pu h => by
  obtain ⟨a, xs, h1, h2, h3⟩ := h
  exact sl_list pins s σ H x v vl vu lo hi sl Q I rx hs pl pu ⟨a, xs, h1, h2, h3.use⟩
/-- t[lo:hi] of a tuple: new, or t itself -/
def rSlTN (K : PySem.W.Frag) : V → Option Int → Option Int → Hp → VK → Prop := fun x lo hi H Q => ∃ a xs, x = .ref a ∧ SqT K H a xs ∧ ∀ p H', Same H H' → SqT K H' p (cutV xs lo hi) → Q (.ref p) H'
theorem sl_tupN : SlR X (rSlTN X.K) := fun pins s σ H x v vl vu lo hi sl Q I rx hs pl pu h => by
  obtain ⟨a, xs, h1, h2, h3⟩ := h
  refine sl_tupA pins s σ H x v vl vu lo hi sl Q I rx hs pl pu ⟨a, xs, h1, h2, fun w => h3 a H (Same.refl _) ?_, fun w p n => h3 p _ (Same.new n) (.inl (.inl upd_same))⟩
  have e : cutV xs lo hi = xs := by
    unfold cutV
    rw [w.1, w.2]
    simp
  rw [e]
  exact h2
def rSortedN (K : PySem.W.Frag) : List V → Hp → VK → Prop := fun vs H Q => ∃ (a : Addr) (ns : List Int), vs = [V.ref a] ∧ SqL K H a (ns.map V.int) ∧ ns.length < 64 ∧ ∀ ns' : List Int, ns'.Perm ns → ns'.Pairwise (· ≤ ·) → New (.lst (ns'.map V.int)) H Q
theorem cr_sortedN : CallR X (.builtin "sorted") (rSortedN X.K) := fun pins s σ H vs us Q I r h => by
  obtain ⟨a, ns, h1, h2, h3, h4⟩ := h
  exact cr_sorted pins s σ H vs us Q I r ⟨a, ns, h1, h2, h3, fun ys p y1 y2 n => (h4 ys y1 y2).use p n⟩
def rSortedDN : List V → Hp → VK → Prop := fun xs H Q => ∃ (a : Addr) (kvs : List (Key × V)) (ks : List Int), xs = [.ref a] ∧ Rd H a (.dK kvs) ∧ kvs.map (·.1) = ks.map Sum.inl ∧ ks.length < 64 ∧ ∀ ys : List Int, ys.Perm ks → ys.Pairwise (· ≤ ·) → New (.lst (ys.map V.int)) H Q
theorem call_sortedDN (hc : X.calm = true) : CallR X (.builtin "sorted") rSortedDN := fun pins s σ H vs us Q I r h => by
  obtain ⟨a, kvs, ks, h1, h2, h3, h4, h5⟩ := h
  exact call_sortedDI hc pins s σ H vs us Q I r ⟨a, kvs, ks, h1, h2, h3, h4, fun ys p y1 y2 n => (h5 ys y1 y2).use p n⟩
end
theorem _root_.L2.Same.over {H H' : Hp} {l : Addr} {o : HO} (s : Same H H') (n : H l = none) : Same H (upd H' l o) := fun b u e => by
  rw [upd_ne (ne_of_none e n)]
  exact s b u e
theorem op_in_seqK (K : PySem.W.Frag) {X : Cx} (hK : X.K = K := by rfl) : OpR X (compareOp .In) (rIn K false) := by
  subst hK
  exact op_in_seq
theorem op_notIn_seqK (K : PySem.W.Frag) {X : Cx} (hK : X.K = K := by rfl) : OpR X (compareOp .NotIn) (rIn K true) := by
  subst hK
  exact op_notIn_seq
theorem pe_ixL (K : PySem.W.Frag) {X : Cx} {o i : Expr} {to ti : TE} {pos : Pos} (ho : PE X o to) (hi : PE X i ti) (hs : NoSl i := by exact fun _ _ => rfl) (hK : X.K = K := by rfl) : PE X (.Subscript o i pos) (tOp (rIxL K) to ti) := by
  subst hK
  exact pe_ix ix_list ho hi hs
theorem pe_ixT (K : PySem.W.Frag) {X : Cx} {o i : Expr} {to ti : TE} {pos : Pos} (ho : PE X o to) (hi : PE X i ti) (hs : NoSl i := by exact fun _ _ => rfl) (hK : X.K = K := by rfl) : PE X (.Subscript o i pos) (tOp (rIxT K) to ti) := by
  subst hK
  exact pe_ix ix_tup ho hi hs
/-! ### a def with lambdas: its code object is known -/
section
variable {P : Program} {w : World} {K : PySem.W.Frag} {mg : Str → Option Value} {base : Heap}
theorem mk_defC {x qual : Str} {st : Stmt} {N ps : List Str} {k : Nat} {sp : Sp} (F : Is K x qual st (He.ga K x)) (S : FnScope N ps (defScope st)) (hb : BindEq x qual st ps) (len : ∀ vs H Q E, sp vs H Q E → vs.length = ps.length)
    (body : ∀ (cdv : Value) (A : Around) (outer : List Env) (s : Shared) (H : Hp) (vs : List V) (Q : VK) (E : XK), cdv = .ref (He.cT K (x, none)).1 → Room k (A.deeper (envOfC qual (defScope st) s.heap.objs.size (He.ga K x) cdv)) → sp vs H Q E →
      ∃ t, PSs (cxN P w K mg base N qual (defScope st) (He.ga K x) cdv A outer s H E) (defBody st) t ∧ t { nx := fun _ H' => Q .non H', rt := Q } (L2.start N vs) H) :
    Def P w K mg base (k + 1) (He.ga K x) ps sp := by
  obtain ⟨fd, F⟩ := F
  have bn := F.bindsN hb
  have kp := F.kp
  obtain ⟨oc, od, dV, kV, doc, pm, an, cdv, ct, osl, rfl, lk, hcd, _, _⟩ := F.ex
  obtain ⟨c, rfl⟩ := He.codeIn_ref hcd
  have e : (He.cT K (x, none)).1 = c := He.codeOf_eq (p := (x, none)) lk rfl
  refine ⟨⟨_, fn_of lk hcd S len fun A outer s H vs Q E hr hsp => ?_, bn⟩, kp⟩
  exact body (.ref c) A outer s H vs Q E (by rw [e]) hr hsp
end
section
variable {P : Program} {w : World} {K : PySem.W.Frag} {mg : Str → Option Value} {base : Heap}
theorem fn_defC {x qual : Str} {st : Stmt} {N ps : List Str} {k : Nat} {sp : Sp} {fd : FuncData} (F : FunD K x qual (defArgs st) (defBody st) (defScope st) [] [] (He.ga K x) fd) (S : FnScope N ps (defScope st)) (len : ∀ vs H Q E, sp vs H Q E → vs.length = ps.length)
    (body : ∀ (cdv : Value) (A : Around) (outer : List Env) (s : Shared) (H : Hp) (vs : List V) (Q : VK) (E : XK), cdv = .ref (He.cT K (x, none)).1 → Room k (A.deeper (envOfC qual (defScope st) s.heap.objs.size (He.ga K x) cdv)) → sp vs H Q E →
      ∃ t, PSs (cxN P w K mg base N qual (defScope st) (He.ga K x) cdv A outer s H E) (defBody st) t ∧ t { nx := fun _ H' => Q .non H', rt := Q } (L2.start N vs) H) :
    FnOk P w K mg base (L2N.CX P w) (k + 1) (He.ga K x) fd ps sp := by
  obtain ⟨oc, od, dV, kV, doc, pm, an, cdv, ct, osl, rfl, lk, hcd, _, _⟩ := F.ex
  obtain ⟨c, rfl⟩ := He.codeIn_ref hcd
  have e : (He.cT K (x, none)).1 = c := He.codeOf_eq (p := (x, none)) lk rfl
  exact fn_of lk hcd S len fun A outer s H vs Q E hr hsp => body (.ref c) A outer s H vs Q E (by rw [e]) hr hsp
end
/-! ### numbers -/
theorem useI {c : Int → Int → Prop} {g : Int → Int → V} {i j : Int} {H : Hp} {Q : VK} (h : c i j) (q : Q (g i j) H) : rI c g (.int i) (.int j) H Q := ⟨i, j, rfl, rfl, h, q⟩
theorem mulx {i j : Int} {a b : Nat} (ha : i.natAbs < 2 ^ a) (hb : j.natAbs < 2 ^ b) (h : a + b ≤ 134217728) : CMulX i j := mulx_ok ha hb h
theorem abs_lt {i : Int} {n : Nat} (h0 : 0 ≤ i) (h : i < 2 ^ n) : i.natAbs < 2 ^ n := by
  have e : ((2 ^ n : Nat) : Int) = 2 ^ n := by simp
  omega
theorem atI_nn {α : Type} {xs : List α} {i : Int} (h0 : 0 ≤ i) (h1 : i < xs.length) : atI xs i = xs[i.toNat]? := by
  unfold atI ixN
  rw [if_pos h0, if_pos h1]
  rfl
def cellM (sc : List Int) (k : Int) : Int := if sc = [] then k * 7919 else (sc[(k % sc.length).toNat]?).getD 0 + k / sc.length * 104729
def bigB : Nat := 3000000
def drawM (c k : Int) : Int :=
  let a := (c * 6364136223846793005 + (k + 1) * 1442695040888963407) % 340282366920938463463374607431768211507
  let b := a * a % 340282366920938463463374607431768211297
  (b % 18446744073709551557 + 1) * (b / 18446744073709551557 + 1) * b % 340282366920938463463374607431768211507
theorem drawM_range (c k : Int) : 0 ≤ drawM c k ∧ drawM c k < 340282366920938463463374607431768211507 := by
  unfold drawM
  exact ⟨Int.emod_nonneg _ (by decide), Int.emod_lt_of_pos _ (by decide)⟩
theorem use_isP {K : PySem.W.Frag} {D a D' : Addr} {b : Bool} {H : Hp} {Q : VK} (e : PySem.W.kitOne K (.ref D) (.ref D') = some b) (q : Q (.bl b) H) : rIsE K D a [.ref a, .ref D'] H Q := ⟨.ref D', .ref D', b, rfl, fun _ r => r, e, q⟩
theorem use_isV {K : PySem.W.Frag} {D a : Addr} {t : String} {b : Bool} {H : Hp} {Q : VK} (e : PySem.W.kitOne K (.ref D) (.type t) = some b) (q : Q (.bl b) H) : rIsE K D a [.ref a, .ty t] H Q := ⟨.ty t, .type t, b, rfl, fun _ r => r, e, q⟩
def spCell (K : PySem.W.Frag) : Sp := fun vs H Q _ => ∃ (p : Addr) (sc : List Int) (k : Int), vs = [.ref p, .int k] ∧ SqL K H p (sc.map V.int) ∧ sc.length ≤ 100 ∧ 0 ≤ k ∧ k < 1000 ∧ ∀ H', Same H H' → Q (.int (cellM sc k)) H'
def spDraw : Sp := fun vs H Q _ => ∃ c k : Int, vs = [.int c, .int k] ∧ c.natAbs < 2 ^ bigB ∧ k.natAbs < 2 ^ 200 ∧ Q (.int (drawM c k)) H
def bigC : Nat := 1048577
theorem pow_sum {a b : Nat} (h30 : 30 ≤ a) (h : a + 1 ≤ b) : 2 ^ a + 2 ^ 30 ≤ 2 ^ b := by
  have x : 2 ^ 30 ≤ 2 ^ a := Nat.pow_le_pow_right (by omega) h30
  have y : 2 ^ a + 2 ^ a = 2 ^ (a + 1) := by rw [Nat.pow_succ]; omega
  have z : 2 ^ (a + 1) ≤ 2 ^ b := Nat.pow_le_pow_right (by omega) h
  omega
theorem cell_abs {sc : List Int} {k : Int} (h0 : 0 ≤ k) (h1 : k < 1000) (hs : ∀ z ∈ sc, z.natAbs < 2 ^ bigC) : (cellM sc k).natAbs < 2 ^ bigB := by
  have big : 2 ^ bigC + 2 ^ 30 ≤ 2 ^ bigB := pow_sum (by unfold bigC; omega) (by unfold bigC bigB; omega)
  have s30 : (2 : Nat) ^ 30 = 1073741824 := by decide
  generalize 2 ^ bigB = B at *
  generalize 2 ^ bigC = C at *
  unfold cellM
  split
  · omega
  · have a : ((sc[(k % sc.length).toNat]?).getD 0).natAbs < C ∨ ((sc[(k % sc.length).toNat]?).getD 0) = 0 := by
      cases q : sc[(k % sc.length).toNat]? with
      | none => exact .inr rfl
      | some z => exact .inl (hs z (List.mem_of_getElem? q))
    have d0 : 0 ≤ k / (sc.length : Int) := Int.ediv_nonneg h0 (by omega)
    have d1 : k / (sc.length : Int) ≤ k := Int.ediv_le_self _ h0
    omega
end Vw
namespace Vw
open PySem PySem.Spec PyProof.Rows L2
def top (i : Nat) : Stmt := PySem.Challenge.pw_votewood_k21_whole_votes_turned_about.main.body.getD i (.Pass ⟨0, 0, 0, 0⟩)
abbrev s__wall : Stmt := top 0
abbrev s_is_count : Stmt := top 17
abbrev s_need_name : Stmt := top 18
abbrev s_need_text : Stmt := top 19
abbrev s_Saying___init__ : Stmt := inClass (top 20) 0
abbrev s_Saying_ups : Stmt := inClass (top 20) 1
abbrev s_Saying_downs : Stmt := inClass (top 20) 2
abbrev s_Saying_points : Stmt := inClass (top 20) 3
abbrev s_Wood___init__ : Stmt := inClass (top 21) 0
abbrev s_Wood_now : Stmt := inClass (top 21) 1
abbrev s_Wood_tick : Stmt := inClass (top 21) 2
abbrev s_Wood_saying : Stmt := inClass (top 21) 3
abbrev s_Wood_numbers : Stmt := inClass (top 21) 4
abbrev s_Wood_deep : Stmt := inClass (top 21) 5
abbrev s_Wood_say : Stmt := inClass (top 21) 6
abbrev s_Wood_look : Stmt := inClass (top 21) 7
abbrev s_Wood_own : Stmt := inClass (top 21) 8
abbrev s_Wood_change : Stmt := inClass (top 21) 9
abbrev s_Wood_replies : Stmt := inClass (top 21) 10
abbrev s_Wood_strike : Stmt := inClass (top 21) 11
abbrev s_Wood_vote : Stmt := inClass (top 21) 12
abbrev s_Wood_votes_of : Stmt := inClass (top 21) 13
abbrev s_Wood_below : Stmt := inClass (top 21) 14
abbrev s_Wood_many : Stmt := inClass (top 21) 15
abbrev s_Wood_standing : Stmt := inClass (top 21) 16
abbrev s_need_measure : Stmt := top 24
abbrev s_worth : Stmt := top 25
abbrev s_is_ahead : Stmt := top 26
abbrev s_in_order : Stmt := top 27
abbrev s_ordered : Stmt := top 28
abbrev s__law_cell : Stmt := top 30
abbrev s__law_drawn : Stmt := top 31
abbrev s__law_word : Stmt := top 32
abbrev s__law_told : Stmt := top 33
abbrev s__law_any_name : Stmt := top 34
abbrev s__law_any_text : Stmt := top 35
abbrev s__law_own : Stmt := top 36
abbrev s__law_beneath : Stmt := top 37
abbrev s__law_above : Stmt := top 38
abbrev s__law_points : Stmt := top 39
abbrev s__law_say : Stmt := top 40
abbrev s__law_strike : Stmt := top 41
abbrev s__law_act : Stmt := top 42
abbrev s__law_do : Stmt := top 43
abbrev s__law_deed : Stmt := top 44
abbrev s__law_copy : Stmt := top 45
abbrev s__law_spoil : Stmt := top 46
abbrev s__law_again : Stmt := top 47
abbrev s__law_other_name : Stmt := top 48
abbrev s__law_named : Stmt := top 49
abbrev s__law_turned : Stmt := top 50
abbrev s__law_two_right : Stmt := top 51
abbrev s_law : Stmt := top 52
abbrev errs : List Str := ["BadName", "NoSaying", "BadText", "Full", "NotYours", "BadNumber"]
abbrev tabs (K : PySem.W.Frag) : List (Addr × Str) := [((He.cT K ("_law_do", none)).2, "_law_do.<locals>.<lambda>"), ((He.cT K ("law", none)).2, "law.<locals>.<lambda>")]
structure Txt (K : PySem.W.Frag) (mg : Str → Option Value) (base : Heap) : Prop where
  x_WoodError : Exc K mg "WoodError"
  x_BadName : Exc K mg "BadName"
  x_NoSaying : Exc K mg "NoSaying"
  x_BadText : Exc K mg "BadText"
  x_Full : Exc K mg "Full"
  x_NotYours : Exc K mg "NotYours"
  x_BadNumber : Exc K mg "BadNumber"
  c_Saying : Own K mg "Saying"
  n_Saying_by : NoAttr K (He.ga K "Saying") "by"
  n_Saying_under : NoAttr K (He.ga K "Saying") "under"
  n_Saying_text : NoAttr K (He.ga K "Saying") "text"
  n_Saying_time : NoAttr K (He.ga K "Saying") "time"
  n_Saying_votes : NoAttr K (He.ga K "Saying") "votes"
  n_Saying_is_struck : NoAttr K (He.ga K "Saying") "is_struck"
  c_Wood : Own K mg "Wood"
  n_Wood_sayings : NoAttr K (He.ga K "Wood") "sayings"
  n_Wood_came : NoAttr K (He.ga K "Wood") "came"
  n_Wood_clock : NoAttr K (He.ga K "Wood") "clock"
  g_is_count : mg "is_count" = some (.ref (He.ga K "is_count"))
  f_is_count : Is K "is_count" "is_count" s_is_count (He.ga K "is_count")
  g_need_name : mg "need_name" = some (.ref (He.ga K "need_name"))
  f_need_name : Is K "need_name" "need_name" s_need_name (He.ga K "need_name")
  g_need_text : mg "need_text" = some (.ref (He.ga K "need_text"))
  f_need_text : Is K "need_text" "need_text" s_need_text (He.ga K "need_text")
  f_Saying___init__ : Is K "__init__" "Saying.__init__" s_Saying___init__ (He.ma K (He.ga K "Saying") "__init__")
  m_Saying_ups : Meth K (He.ga K "Saying") "ups" (He.ma K (He.ga K "Saying") "ups")
  f_Saying_ups : Is K "ups" "Saying.ups" s_Saying_ups (He.ma K (He.ga K "Saying") "ups")
  m_Saying_downs : Meth K (He.ga K "Saying") "downs" (He.ma K (He.ga K "Saying") "downs")
  f_Saying_downs : Is K "downs" "Saying.downs" s_Saying_downs (He.ma K (He.ga K "Saying") "downs")
  m_Saying_points : Meth K (He.ga K "Saying") "points" (He.ma K (He.ga K "Saying") "points")
  f_Saying_points : Is K "points" "Saying.points" s_Saying_points (He.ma K (He.ga K "Saying") "points")
  f_Wood___init__ : Is K "__init__" "Wood.__init__" s_Wood___init__ (He.ma K (He.ga K "Wood") "__init__")
  m_Wood_tick : Meth K (He.ga K "Wood") "tick" (He.ma K (He.ga K "Wood") "tick")
  f_Wood_tick : Is K "tick" "Wood.tick" s_Wood_tick (He.ma K (He.ga K "Wood") "tick")
  m_Wood_saying : Meth K (He.ga K "Wood") "saying" (He.ma K (He.ga K "Wood") "saying")
  f_Wood_saying : Is K "saying" "Wood.saying" s_Wood_saying (He.ma K (He.ga K "Wood") "saying")
  m_Wood_numbers : Meth K (He.ga K "Wood") "numbers" (He.ma K (He.ga K "Wood") "numbers")
  f_Wood_numbers : Is K "numbers" "Wood.numbers" s_Wood_numbers (He.ma K (He.ga K "Wood") "numbers")
  m_Wood_deep : Meth K (He.ga K "Wood") "deep" (He.ma K (He.ga K "Wood") "deep")
  f_Wood_deep : Is K "deep" "Wood.deep" s_Wood_deep (He.ma K (He.ga K "Wood") "deep")
  m_Wood_say : Meth K (He.ga K "Wood") "say" (He.ma K (He.ga K "Wood") "say")
  f_Wood_say : Is K "say" "Wood.say" s_Wood_say (He.ma K (He.ga K "Wood") "say")
  m_Wood_look : Meth K (He.ga K "Wood") "look" (He.ma K (He.ga K "Wood") "look")
  f_Wood_look : Is K "look" "Wood.look" s_Wood_look (He.ma K (He.ga K "Wood") "look")
  m_Wood_own : Meth K (He.ga K "Wood") "own" (He.ma K (He.ga K "Wood") "own")
  f_Wood_own : Is K "own" "Wood.own" s_Wood_own (He.ma K (He.ga K "Wood") "own")
  m_Wood_change : Meth K (He.ga K "Wood") "change" (He.ma K (He.ga K "Wood") "change")
  f_Wood_change : Is K "change" "Wood.change" s_Wood_change (He.ma K (He.ga K "Wood") "change")
  m_Wood_replies : Meth K (He.ga K "Wood") "replies" (He.ma K (He.ga K "Wood") "replies")
  f_Wood_replies : Is K "replies" "Wood.replies" s_Wood_replies (He.ma K (He.ga K "Wood") "replies")
  m_Wood_strike : Meth K (He.ga K "Wood") "strike" (He.ma K (He.ga K "Wood") "strike")
  f_Wood_strike : Is K "strike" "Wood.strike" s_Wood_strike (He.ma K (He.ga K "Wood") "strike")
  m_Wood_vote : Meth K (He.ga K "Wood") "vote" (He.ma K (He.ga K "Wood") "vote")
  f_Wood_vote : Is K "vote" "Wood.vote" s_Wood_vote (He.ma K (He.ga K "Wood") "vote")
  m_Wood_votes_of : Meth K (He.ga K "Wood") "votes_of" (He.ma K (He.ga K "Wood") "votes_of")
  f_Wood_votes_of : Is K "votes_of" "Wood.votes_of" s_Wood_votes_of (He.ma K (He.ga K "Wood") "votes_of")
  m_Wood_below : Meth K (He.ga K "Wood") "below" (He.ma K (He.ga K "Wood") "below")
  f_Wood_below : Is K "below" "Wood.below" s_Wood_below (He.ma K (He.ga K "Wood") "below")
  m_Wood_many : Meth K (He.ga K "Wood") "many" (He.ma K (He.ga K "Wood") "many")
  f_Wood_many : Is K "many" "Wood.many" s_Wood_many (He.ma K (He.ga K "Wood") "many")
  m_Wood_standing : Meth K (He.ga K "Wood") "standing" (He.ma K (He.ga K "Wood") "standing")
  f_Wood_standing : Is K "standing" "Wood.standing" s_Wood_standing (He.ma K (He.ga K "Wood") "standing")
  g_need_measure : mg "need_measure" = some (.ref (He.ga K "need_measure"))
  f_need_measure : Is K "need_measure" "need_measure" s_need_measure (He.ga K "need_measure")
  g_worth : mg "worth" = some (.ref (He.ga K "worth"))
  f_worth : Is K "worth" "worth" s_worth (He.ga K "worth")
  g_is_ahead : mg "is_ahead" = some (.ref (He.ga K "is_ahead"))
  f_is_ahead : Is K "is_ahead" "is_ahead" s_is_ahead (He.ga K "is_ahead")
  g_in_order : mg "in_order" = some (.ref (He.ga K "in_order"))
  f_in_order : Is K "in_order" "in_order" s_in_order (He.ga K "in_order")
  g_ordered : mg "ordered" = some (.ref (He.ga K "ordered"))
  f_ordered : Is K "ordered" "ordered" s_ordered (He.ga K "ordered")
  g__law_cell : mg "_law_cell" = some (.ref (He.ga K "_law_cell"))
  f__law_cell : Is K "_law_cell" "_law_cell" s__law_cell (He.ga K "_law_cell")
  g__law_drawn : mg "_law_drawn" = some (.ref (He.ga K "_law_drawn"))
  f__law_drawn : Is K "_law_drawn" "_law_drawn" s__law_drawn (He.ga K "_law_drawn")
  g__law_word : mg "_law_word" = some (.ref (He.ga K "_law_word"))
  f__law_word : Is K "_law_word" "_law_word" s__law_word (He.ga K "_law_word")
  g__law_told : mg "_law_told" = some (.ref (He.ga K "_law_told"))
  f__law_told : Is K "_law_told" "_law_told" s__law_told (He.ga K "_law_told")
  g__law_any_name : mg "_law_any_name" = some (.ref (He.ga K "_law_any_name"))
  f__law_any_name : Is K "_law_any_name" "_law_any_name" s__law_any_name (He.ga K "_law_any_name")
  g__law_any_text : mg "_law_any_text" = some (.ref (He.ga K "_law_any_text"))
  f__law_any_text : Is K "_law_any_text" "_law_any_text" s__law_any_text (He.ga K "_law_any_text")
  g__law_own : mg "_law_own" = some (.ref (He.ga K "_law_own"))
  f__law_own : Is K "_law_own" "_law_own" s__law_own (He.ga K "_law_own")
  g__law_beneath : mg "_law_beneath" = some (.ref (He.ga K "_law_beneath"))
  f__law_beneath : Is K "_law_beneath" "_law_beneath" s__law_beneath (He.ga K "_law_beneath")
  g__law_above : mg "_law_above" = some (.ref (He.ga K "_law_above"))
  f__law_above : Is K "_law_above" "_law_above" s__law_above (He.ga K "_law_above")
  g__law_points : mg "_law_points" = some (.ref (He.ga K "_law_points"))
  f__law_points : Is K "_law_points" "_law_points" s__law_points (He.ga K "_law_points")
  g__law_say : mg "_law_say" = some (.ref (He.ga K "_law_say"))
  f__law_say : Is K "_law_say" "_law_say" s__law_say (He.ga K "_law_say")
  g__law_strike : mg "_law_strike" = some (.ref (He.ga K "_law_strike"))
  f__law_strike : Is K "_law_strike" "_law_strike" s__law_strike (He.ga K "_law_strike")
  g__law_act : mg "_law_act" = some (.ref (He.ga K "_law_act"))
  f__law_act : Is K "_law_act" "_law_act" s__law_act (He.ga K "_law_act")
  g__law_do : mg "_law_do" = some (.ref (He.ga K "_law_do"))
  f__law_do : Is K "_law_do" "_law_do" s__law_do (He.ga K "_law_do")
  g__law_deed : mg "_law_deed" = some (.ref (He.ga K "_law_deed"))
  f__law_deed : Is K "_law_deed" "_law_deed" s__law_deed (He.ga K "_law_deed")
  g__law_copy : mg "_law_copy" = some (.ref (He.ga K "_law_copy"))
  f__law_copy : Is K "_law_copy" "_law_copy" s__law_copy (He.ga K "_law_copy")
  g__law_spoil : mg "_law_spoil" = some (.ref (He.ga K "_law_spoil"))
  f__law_spoil : Is K "_law_spoil" "_law_spoil" s__law_spoil (He.ga K "_law_spoil")
  g__law_again : mg "_law_again" = some (.ref (He.ga K "_law_again"))
  f__law_again : Is K "_law_again" "_law_again" s__law_again (He.ga K "_law_again")
  g__law_other_name : mg "_law_other_name" = some (.ref (He.ga K "_law_other_name"))
  f__law_other_name : Is K "_law_other_name" "_law_other_name" s__law_other_name (He.ga K "_law_other_name")
  g__law_named : mg "_law_named" = some (.ref (He.ga K "_law_named"))
  f__law_named : Is K "_law_named" "_law_named" s__law_named (He.ga K "_law_named")
  g__law_turned : mg "_law_turned" = some (.ref (He.ga K "_law_turned"))
  f__law_turned : Is K "_law_turned" "_law_turned" s__law_turned (He.ga K "_law_turned")
  g__law_two_right : mg "_law_two_right" = some (.ref (He.ga K "_law_two_right"))
  f__law_two_right : Is K "_law_two_right" "_law_two_right" s__law_two_right (He.ga K "_law_two_right")
  g_law : mg "law" = some (.ref (He.ga K "law"))
  f_law : Is K "law" "law" s_law (He.ga K "law")
  b_ValueError : mg "ValueError" = none
  b_all : mg "all" = none
  b_bool : mg "bool" = none
  b_dict : mg "dict" = none
  b_int : mg "int" = none
  b_isinstance : mg "isinstance" = none
  b_len : mg "len" = none
  b_list : mg "list" = none
  b_max : mg "max" = none
  b_min : mg "min" = none
  b_ord : mg "ord" = none
  b_range : mg "range" = none
  b_sorted : mg "sorted" = none
  b_str : mg "str" = none
  b_sum : mg "sum" = none
  b_tuple : mg "tuple" = none
  k_SMALL : GK mg "SMALL" (.str "abcdefghijklmnopqrstuvwxyz")
  k_MOST_WORD : GK mg "MOST_WORD" (.int 6)
  k_MOST_TEXT : GK mg "MOST_TEXT" (.int 30)
  k_MOST_SAYINGS : GK mg "MOST_SAYINGS" (.int 60)
  k_MOST_DEEP : GK mg "MOST_DEEP" (.int 8)
  k_MOST_TICKS : GK mg "MOST_TICKS" (.int 1000)
  k_BARRED : GK mg "BARRED" (.int 37)
  k_MEASURES : GK mg "MEASURES" (.ref (He.ga K "MEASURES"))
  u_MEASURES : ∀ H, SqT K H (He.ga K "MEASURES") [.str "new", .str "old", .str "best", .str "warm", .str "torn", .str "sure"]
  wd : Word K errs
  tb__law_do : LamX.TabB base mg (He.cT K ("_law_do", none)).1 (He.cT K ("_law_do", none)).2
  tb_law : LamX.TabB base mg (He.cT K ("law", none)).1 (He.cT K ("law", none)).2
  tn : ((tabs K).map (·.1)).Nodup
end Vw
namespace Vw
open PySem PySem.Spec PyProof.Rows L2
local macro_rules | `(tactic| walk_at "rd") => `(tactic| simp only [tSeq, tNext, tIfS, tAsg, tRet, tRetN, tDrop, tVar, tC, tOp, tUn, tTest, tB, tAnd, tOr, tNot, tAndV, tOrV, tNotV, tIf, tChain, tCB, tCons, tNil, tCall, tMeth, tMake, tFld, sFld, tTup, tLst, tTupS, tLstS, tDNewKS, tDNewTS, tTold, tCmp, t2I, tIsN, tNotN, tPar, gName, gNil, gCons, gTup, gSub, rI0, rU, rEq, rNe, tDGet, tDIn, tDNotIn, sDPut, tDNewK, tDGet1, tDGet2, tDPop1, tDPop2, tBM, tBM0, tM0, tM1, tSl, tPart, tNoPart, tBreak, tCont, tThru, L2.start, List.map_cons, List.map_nil, List.length_cons, List.length_nil, List.cons_append, List.nil_append, List.append_nil, List.replicate_succ, List.replicate_zero, Nat.reduceAdd, Nat.reduceSub, Nat.zero_add, List.getElem?_cons_zero, List.getElem?_cons_succ, List.set_cons_zero, List.set_cons_succ, wipe, cxOf_K, tYes, List.cons.injEq, and_self, Option.some.injEq, V.int.injEq, V.bl.injEq, V.ref.injEq, V.str.injEq, exists_eq_left', exists_eq_left, exists_and_left, and_assoc, true_and, and_true, if_true, if_false, ite_true, ite_false, Bool.not_true, Bool.not_false, Bool.false_eq_true, reduceIte])
/-! ### any data by its kind -/
def tyName : PyData → String
  | .none => "NoneType" | .bool _ => "bool" | .int _ => "int" | .str _ => "str" | .list _ => "list" | .tuple _ => "tuple" | .dict _ => "dict"
theorem dp_ty {K : PySem.W.Frag} {H : Hp} {x : V} {d : PyData} (h : Dp K H x d) : TyX K H x (.type (tyName d)) := by
  cases h with
  | non => exact .base .non
  | bl b => exact .base (.bl b)
  | int i => exact .base (.int i)
  | str z => exact .base (.str z)
  | lst hs _ =>
    rcases hs with (e | ⟨o, e⟩) | ⟨_, _, _, e, c, _⟩
    · exact .base (.lst e)
    · exact .base (.frz e)
    · exact .kList e c
  | tup hs _ =>
    rcases hs with (e | ⟨o, e⟩) | ⟨_, _, _, e, c, _⟩
    · exact .base (.tup e)
    · exact .fTuple e
    · exact .kTuple e c
def isIntD : PyData → Bool
  | .int _ => true | .bool _ => true | _ => false
def isBoolD : PyData → Bool
  | .bool _ => true | _ => false
def isStrD : PyData → Bool
  | .str _ => true | _ => false
theorem kit_int (d : PyData) : kitB (tyName d) "int" = some (isIntD d) := by
  cases d with
  | none => exact (show kitB "NoneType" "int" = some false by decide +kernel)
  | bool b => exact (show kitB "bool" "int" = some true by decide +kernel)
  | int i => exact (show kitB "int" "int" = some true by decide +kernel)
  | str z => exact (show kitB "str" "int" = some false by decide +kernel)
  | list z => exact (show kitB "list" "int" = some false by decide +kernel)
  | tuple z => exact (show kitB "tuple" "int" = some false by decide +kernel)
  | dict z => exact (show kitB "dict" "int" = some false by decide +kernel)
theorem kit_bool (d : PyData) : kitB (tyName d) "bool" = some (isBoolD d) := by
  cases d with
  | none => exact (show kitB "NoneType" "bool" = some false by decide +kernel)
  | bool b => exact (show kitB "bool" "bool" = some true by decide +kernel)
  | int i => exact (show kitB "int" "bool" = some false by decide +kernel)
  | str z => exact (show kitB "str" "bool" = some false by decide +kernel)
  | list z => exact (show kitB "list" "bool" = some false by decide +kernel)
  | tuple z => exact (show kitB "tuple" "bool" = some false by decide +kernel)
  | dict z => exact (show kitB "dict" "bool" = some false by decide +kernel)
theorem kit_str (d : PyData) : kitB (tyName d) "str" = some (isStrD d) := by
  cases d with
  | none => exact (show kitB "NoneType" "str" = some false by decide +kernel)
  | bool b => exact (show kitB "bool" "str" = some false by decide +kernel)
  | int i => exact (show kitB "int" "str" = some false by decide +kernel)
  | str z => exact (show kitB "str" "str" = some true by decide +kernel)
  | list z => exact (show kitB "list" "str" = some false by decide +kernel)
  | tuple z => exact (show kitB "tuple" "str" = some false by decide +kernel)
  | dict z => exact (show kitB "dict" "str" = some false by decide +kernel)
theorem use_isi {K : PySem.W.Frag} {H : Hp} {x : V} {d : PyData} {t : String} {b : Bool} {Q : VK} (hx : Dp K H x d) (hb : kitB (tyName d) t = some b) (q : Q (.bl b) H) : rIsi K [x, .ty t] H Q :=
  ⟨x, .ty t, _, _, b, rfl, .ty t, dp_ty hx, kit_ty hb, q⟩
/-! ### is_count -/
def spIsCount (K : PySem.W.Frag) : Sp := fun vs H Q _ => ∃ (x : V) (d : PyData) (lo hi : Int), vs = [x, .int lo, .int hi] ∧ Dp K H x d ∧ Q (.bl (isCount d lo hi)) H
section
variable {P : Program} {w : World} {K : PySem.W.Frag} {mg : Str → Option Value} {base : Heap}
abbrev N_is_count : List Str := ["thing", "low", "high"]
theorem sc_is_count : FnScope N_is_count ["thing", "low", "high"] (defScope s_is_count) := ⟨rfl, rfl, rfl, by decide +kernel, rfl, by decide +kernel, by decide +kernel⟩
theorem be_is_count : BindEq "is_count" "is_count" s_is_count ["thing", "low", "high"] := fun _ _ _ _ _ _ us hl => match us, hl with | [_, _, _], _ => rfl
theorem D_is_count (T : Txt K mg base) : Def P w K mg base 1 (He.ga K "is_count") ["thing", "low", "high"] (spIsCount K) := by
  refine mk_def T.f_is_count sc_is_count be_is_count (fun vs H Q E h => ?_) (fun cdv A outer s H vs Q E hr h => ?_)
  · obtain ⟨x, d, lo, hi, rfl, _⟩ := h
    rfl
  · obtain ⟨x, d, lo, hi, rfl, hx, q⟩ := h
    refine ⟨_, (pss_one (ps_ret (pe_and (pe_callB call_isi (by rfl) T.b_isinstance (by decide +kernel) (pa_cons (pv 0) (pa_cons (pe_bltn (v := .ty "int") (by rfl) T.b_int (by decide +kernel) rfl) pa_nil))) (pe_and (pe_not (pe_callB call_isi (by rfl) T.b_isinstance (by decide +kernel) (pa_cons (pv 0) (pa_cons (pe_bltn (v := .ty "bool") (by rfl) T.b_bool (by decide +kernel) rfl) pa_nil)))) (pe_one (pe_chain op_le op_le (pv 1) (pv 0) (pv 2))))))), ?_⟩
    walk_at "rd"
    refine use_isi hx (kit_int d) ⟨_, rfl, ?_⟩
    cases hx with
    | int i =>
      refine iteT (use_isi (.int i) (kit_bool _) ⟨_, rfl, iteT ⟨_, rfl, ?_⟩⟩)
      by_cases h1 : lo ≤ i
      · rw [decide_eq_true h1]
        refine iteT ⟨_, rfl, ?_⟩
        simpa [isCount, h1] using q
      · rw [decide_eq_false h1]
        refine iteF ?_
        simpa [isCount, h1] using q
    | bl b => exact iteT (use_isi (.bl b) (kit_bool _) ⟨_, rfl, iteF q⟩)
    | non => exact iteF q
    | str z => exact iteF q
    | lst _ _ => exact iteF q
    | tup _ _ => exact iteF q
/-! ### need_name, need_text -/
def spNeedName (K : PySem.W.Frag) : Sp := fun vs H Q E => ∃ (x : V) (d : PyData), vs = [x] ∧ Dp K H x d ∧ Short d ∧
  (nameOk d = true → ∀ H', Same H H' → Q .non H') ∧ (nameOk d = false → ∀ H', Same H H' → Bad K E .name H')
abbrev N_need_name : List Str := ["thing", "good", "sign"]
theorem sc_need_name : FnScope N_need_name ["thing"] (defScope s_need_name) := ⟨rfl, rfl, rfl, by decide +kernel, rfl, by decide +kernel, by decide +kernel⟩
theorem be_need_name : BindEq "need_name" "need_name" s_need_name ["thing"] := fun _ _ _ _ _ _ us hl => match us, hl with | [_], _ => rfl
theorem D_need_name (T : Txt K mg base) : Def P w K mg base 1 (He.ga K "need_name") ["thing"] (spNeedName K) := by
  refine mk_def T.f_need_name sc_need_name be_need_name (fun vs H Q E h => ?_) (fun cdv A outer s H vs Q E hr h => ?_)
  · obtain ⟨x, d, rfl, _⟩ := h
    rfl
  · obtain ⟨x, d, rfl, hx, hz, k1, k0⟩ := h
    refine ⟨_, (pss_cons (ps_set (i := 1) sc_need_name.nd rfl (Or.inl rfl) (pe_and (pe_callB call_isi (by rfl) T.b_isinstance (by decide +kernel) (pa_cons (pv 0) (pa_cons (pe_bltn (v := .ty "str") (by rfl) T.b_str (by decide +kernel) rfl) pa_nil))) (pe_one (pe_chain op_le op_le pe_int (pe_callB call_len_str (by rfl) T.b_len (by decide +kernel) (pa_cons (pv 0) pa_nil)) (pe_gk T.k_MOST_WORD)))))
      (pss_one (ps_if (PW.pt (pw_or (pt_not (pt_val (pv 1))) (pw_or1 (pt_not (pt_val (pe_callB (cr_all rfl) (by rfl) T.b_all (by decide +kernel) (pa_cons (pe_lc (own := [("sign", 2)]) (g := gName 2) rfl sc_need_name.nd (pi_str (pv 0)) (blkOk_by (N := N_need_name) (sc := defScope s_need_name) (by decide +kernel)) (fun _ _ _ _ _ => by exact (pg_name (i := 2) sc_need_name.nd rfl (Or.inl rfl))) (fun _ _ _ _ _ => pts_nil) (fun _ _ _ _ _ => by exact (pe_cmpR op_in_sign (pv 2) (pe_gk T.k_SMALL) rfl))) pa_nil))))))) (pss_one (ps_rs T.x_BadName)) pss_nil))), ?_⟩
    walk_at "rd"
    refine use_isi hx (kit_str d) ⟨_, rfl, ?_⟩
    have k0' : nameOk d = false → Bad K E .name H := fun h => k0 h H (Same.refl H)
    cases hx with
    | str z =>
      have hz : z.length < sizeLine := hz
      refine iteT ⟨_, rfl, Nat.le_of_lt hz, ?_⟩
      by_cases h1 : 1 ≤ (z.length : Int)
      · rw [decide_eq_true h1]
        refine iteT ?_
        by_cases h6 : (z.length : Int) ≤ 6
        · rw [decide_eq_true h6]
          refine iteF ?_
          refine lcS (z := z) (fun c => some (.bl (decide (c ∈ small)))) (fun R r => ⟨_, rfl, r⟩) hz (fun c H' _ s1 N1 N0 k1 k0 => ?_) (fun D H' hD s1 e => ?_)
          · walk_at "rd"
            exact ⟨_, rfl, k1 _ _ (Same.refl _) rfl⟩
          · refine ⟨D, z.cps.toList.map fun c => decide (c ∈ small), rfl, SqL.of ?_, ?_⟩
            · rw [e, List.filterMap_eq_map', List.map_map]
              rfl
            · refine ⟨_, rfl, ?_⟩
              have ea : nameOk (.str z) = (z.cps.toList.map fun c => decide (c ∈ small)).all id := by
                have h1' : 1 ≤ z.length := by omega
                have h6' : z.length ≤ 6 := by omega
                simp [nameOk, nameZ, h1', h6', List.all_map, Function.comp_def]
              rw [← ea]
              cases en : nameOk (.str z) with
              | true => exact iteF (k1 en H' s1)
              | false => exact iteT (k0 en H' s1)
        · rw [decide_eq_false h6]
          refine iteT (k0' ?_)
          have h6' : ¬ z.length ≤ 6 := by omega
          simp [nameOk, nameZ, h6']
      · rw [decide_eq_false h1]
        refine iteF (k0' ?_)
        have h1' : ¬ 1 ≤ z.length := by omega
        simp [nameOk, nameZ, h1']
    | int i => exact iteF (k0' rfl)
    | bl b => exact iteF (k0' rfl)
    | non => exact iteF (k0' rfl)
    | lst _ _ => exact iteF (k0' rfl)
    | tup _ _ => exact iteF (k0' rfl)
def spNeedText (K : PySem.W.Frag) : Sp := fun vs H Q E => ∃ (x : V) (d : PyData), vs = [x] ∧ Dp K H x d ∧ Short d ∧
  (textOk d = true → ∀ H', Same H H' → Q .non H') ∧ (textOk d = false → ∀ H', Same H H' → Bad K E .text H')
theorem lt1 (a b : Nat) : decide (([a] : List Nat) < [b]) = decide (a < b) := by
  have : (([a] : List Nat) < [b]) ↔ a < b := by
    rw [List.cons_lt_cons_iff]
    simp
  simp [this]
theorem sp32 : (Str.ofString " ").cps.toList = [32] := by decide +kernel
theorem ti126 : (Str.ofString "~").cps.toList = [126] := by decide +kernel
abbrev N_need_text : List Str := ["thing", "good", "sign"]
theorem sc_need_text : FnScope N_need_text ["thing"] (defScope s_need_text) := ⟨rfl, rfl, rfl, by decide +kernel, rfl, by decide +kernel, by decide +kernel⟩
theorem be_need_text : BindEq "need_text" "need_text" s_need_text ["thing"] := fun _ _ _ _ _ _ us hl => match us, hl with | [_], _ => rfl
theorem D_need_text (T : Txt K mg base) : Def P w K mg base 1 (He.ga K "need_text") ["thing"] (spNeedText K) := by
  refine mk_def T.f_need_text sc_need_text be_need_text (fun vs H Q E h => ?_) (fun cdv A outer s H vs Q E hr h => ?_)
  · obtain ⟨x, d, rfl, _⟩ := h
    rfl
  · obtain ⟨x, d, rfl, hx, hz, k1, k0⟩ := h
    refine ⟨_, (pss_cons (ps_set (i := 1) sc_need_text.nd rfl (Or.inl rfl) (pe_and (pe_callB call_isi (by rfl) T.b_isinstance (by decide +kernel) (pa_cons (pv 0) (pa_cons (pe_bltn (v := .ty "str") (by rfl) T.b_str (by decide +kernel) rfl) pa_nil))) (pe_one (pe_chain op_le op_le pe_int (pe_callB call_len_str (by rfl) T.b_len (by decide +kernel) (pa_cons (pv 0) pa_nil)) (pe_gk T.k_MOST_TEXT)))))
      (pss_one (ps_if (PW.pt (pw_or (pt_not (pt_val (pv 1))) (pw_or1 (pt_not (pt_val (pe_callB (cr_all rfl) (by rfl) T.b_all (by decide +kernel) (pa_cons (pe_lc (own := [("sign", 2)]) (g := gName 2) rfl sc_need_text.nd (pi_str (pv 0)) (blkOk_by (N := N_need_text) (sc := defScope s_need_text) (by decide +kernel)) (fun _ _ _ _ _ => by exact (pg_name (i := 2) sc_need_text.nd rfl (Or.inl rfl))) (fun _ _ _ _ _ => pts_nil) (fun _ _ _ _ _ => by exact (pe_and (pe_chain op_le_str op_le_str pe_str (pv 2) pe_str) (pe_one (pe_cmpR op_ne (pe_callB call_ord (by rfl) T.b_ord (by decide +kernel) (pa_cons (pv 2) pa_nil)) (pe_gk T.k_BARRED) (nomark _)))))) pa_nil))))))) (pss_one (ps_rs T.x_BadText)) pss_nil))), ?_⟩
    walk_at "rd"
    refine use_isi hx (kit_str d) ⟨_, rfl, ?_⟩
    have k0' : textOk d = false → Bad K E .text H := fun h => k0 h H (Same.refl H)
    cases hx with
    | str z =>
      have hz : z.length < sizeLine := hz
      refine iteT ⟨_, rfl, Nat.le_of_lt hz, ?_⟩
      by_cases h1 : 1 ≤ (z.length : Int)
      · rw [decide_eq_true h1]
        refine iteT ?_
        by_cases h6 : (z.length : Int) ≤ 30
        · rw [decide_eq_true h6]
          refine iteF ?_
          refine lcS (z := z) (fun c => some (.bl (signOk c))) (fun R r => ⟨_, rfl, r⟩) hz (fun c H' _ s1 N1 N0 k1 k0 => ?_) (fun D H' hD s1 e => ?_)
          · walk_at "rd"
            rw [sp32, ti126, lt1, lt1]
            by_cases a1 : c < 32
            · rw [decide_eq_true a1]
              refine iteF (k1 _ _ (Same.refl _) ?_)
              have : ¬ 32 ≤ c := by omega
              simp [signOk, this]
            · rw [decide_eq_false a1]
              refine iteT ?_
              by_cases a2 : 126 < c
              · rw [decide_eq_true a2]
                refine iteF (k1 _ _ (Same.refl _) ?_)
                have : ¬ c ≤ 126 := by omega
                simp [signOk, this]
              · rw [decide_eq_false a2]
                refine iteT ⟨rfl, rfl, k1 _ _ (Same.refl _) ?_⟩
                have h32 : 32 ≤ c := by omega
                have h126 : c ≤ 126 := by omega
                have e37 : decide (((#[c].getD 0 0 : Nat) : Int) = 37) = decide (c = 37) := by
                  have : (#[c].getD 0 0 : Nat) = c := rfl
                  rw [this]
                  by_cases hc : c = 37
                  · simp [hc]
                  · have : ¬ ((c : Int) = 37) := by omega
                    simp [hc, this]
                rw [e37]
                simp [signOk, h32, h126]
          · refine ⟨D, z.cps.toList.map signOk, rfl, SqL.of ?_, ?_⟩
            · rw [e, List.filterMap_eq_map', List.map_map]
              rfl
            · refine ⟨_, rfl, ?_⟩
              have ea : textOk (.str z) = (z.cps.toList.map signOk).all id := by
                have h1' : 1 ≤ z.length := by omega
                have h6' : z.length ≤ 30 := by omega
                simp [textOk, textZ, h1', h6', List.all_map, Function.comp_def]
              rw [← ea]
              cases en : textOk (.str z) with
              | true => exact iteF (k1 en H' s1)
              | false => exact iteT (k0 en H' s1)
        · rw [decide_eq_false h6]
          refine iteT (k0' ?_)
          have h6' : ¬ z.length ≤ 30 := by omega
          simp [textOk, textZ, h6']
      · rw [decide_eq_false h1]
        refine iteF (k0' ?_)
        have h1' : ¬ 1 ≤ z.length := by omega
        simp [textOk, textZ, h1']
    | int i => exact iteF (k0' rfl)
    | bl b => exact iteF (k0' rfl)
    | non => exact iteF (k0' rfl)
    | lst _ _ => exact iteF (k0' rfl)
    | tup _ _ => exact iteF (k0' rfl)
end
end Vw
namespace Vw
open PySem PySem.Spec PyProof.Rows L2
local macro_rules | `(tactic| walk_at "rd") => `(tactic| simp only [tSeq, tNext, tIfS, tAsg, tRet, tRetN, tDrop, tVar, tC, tOp, tUn, tTest, tB, tAnd, tOr, tNot, tAndV, tOrV, tNotV, tIf, tChain, tCB, tCons, tNil, tCall, tMeth, tMake, tFld, sFld, tTup, tLst, tTupS, tLstS, tDNewKS, tDNewTS, tTold, tCmp, t2I, tIsN, tNotN, tPar, gName, gNil, gCons, gTup, gSub, rI0, rU, rEq, rNe, tDGet, tDIn, tDNotIn, sDPut, tDNewK, tDGet1, tDGet2, tDPop1, tDPop2, tBM, tBM0, tM0, tM1, tSl, tPart, tNoPart, tBreak, tCont, tThru, L2.start, List.map_cons, List.map_nil, List.length_cons, List.length_nil, List.cons_append, List.nil_append, List.append_nil, List.replicate_succ, List.replicate_zero, Nat.reduceAdd, Nat.reduceSub, Nat.zero_add, List.getElem?_cons_zero, List.getElem?_cons_succ, List.set_cons_zero, List.set_cons_succ, wipe, cxOf_K, tYes, List.cons.injEq, and_self, Option.some.injEq, V.int.injEq, V.bl.injEq, V.ref.injEq, V.str.injEq, exists_eq_left', exists_eq_left, exists_and_left, and_assoc, true_and, and_true, if_true, if_false, ite_true, ite_false, Bool.not_true, Bool.not_false, Bool.false_eq_true, reduceIte])
/-! ### a saying in the heap -/
abbrev cS (K : PySem.W.Frag) : Addr := He.ga K "Saying"
abbrev cW (K : PySem.W.Frag) : Addr := He.ga K "Wood"
def voteK (p : Str × Int) : Key × V := (Sum.inr p.1, .int p.2)
def votesK (vs : List (Str × Int)) : List (Key × V) := vs.map voteK
structure SayAt (K : PySem.W.Frag) (H : Hp) (a x v : Addr) (r : Row) : Prop where
  o : H a = some (.ins (cS K) x (sayFs r v))
  d : H v = some (.dK (votesK r.votes))
  nd : (r.votes.map (·.1)).Nodup
  sz : r.votes.length < 100000
theorem SayAt.same {K : PySem.W.Frag} {H H' : Hp} {a x v : Addr} {r : Row} (S : SayAt K H a x v r) (s : Same H H') : SayAt K H' a x v r := ⟨s _ _ S.o, s _ _ S.d, S.nd, S.sz⟩
theorem fld {K : PySem.W.Frag} {H : Hp} {a C dx : Addr} {fs : List (Str × V)} {f : Str} {v : V} {R : V → Prop} (h : H a = some (.ins C dx fs)) (hc : Cls K C) (hn : NoAttr K C f) (hl : fs.lookup f = some v) (q : R v) :
    ∃ C dx fs, H a = some (.ins C dx fs) ∧ Cls K C ∧ NoAttr K C f ∧ ∃ v, fs.lookup f = some v ∧ R v := ⟨_, _, _, h, hc, hn, _, hl, q⟩
section
variable {K : PySem.W.Frag} {mg : Str → Option Value} {base : Heap} {H : Hp} {a x v : Addr} {r : Row} {R : V → Prop}
theorem SayAt.fby (S : SayAt K H a x v r) (T : Txt K mg base) (q : R (.str r.who)) : ∃ C dx fs, H a = some (.ins C dx fs) ∧ Cls K C ∧ NoAttr K C "by" ∧ ∃ v, fs.lookup (Str.ofString "by") = some v ∧ R v := fld S.o T.c_Saying.c T.n_Saying_by (fs_by _ _) q
theorem SayAt.funder (S : SayAt K H a x v r) (T : Txt K mg base) (q : R (.int r.under)) : ∃ C dx fs, H a = some (.ins C dx fs) ∧ Cls K C ∧ NoAttr K C "under" ∧ ∃ v, fs.lookup (Str.ofString "under") = some v ∧ R v := fld S.o T.c_Saying.c T.n_Saying_under (fs_under _ _) q
theorem SayAt.ftext (S : SayAt K H a x v r) (T : Txt K mg base) (q : R (.str r.text)) : ∃ C dx fs, H a = some (.ins C dx fs) ∧ Cls K C ∧ NoAttr K C "text" ∧ ∃ v, fs.lookup (Str.ofString "text") = some v ∧ R v := fld S.o T.c_Saying.c T.n_Saying_text (fs_text _ _) q
theorem SayAt.ftime (S : SayAt K H a x v r) (T : Txt K mg base) (q : R (.int r.time)) : ∃ C dx fs, H a = some (.ins C dx fs) ∧ Cls K C ∧ NoAttr K C "time" ∧ ∃ v, fs.lookup (Str.ofString "time") = some v ∧ R v := fld S.o T.c_Saying.c T.n_Saying_time (fs_time _ _) q
theorem SayAt.fvotes (S : SayAt K H a x v r) (T : Txt K mg base) (q : R (.ref v)) : ∃ C dx fs, H a = some (.ins C dx fs) ∧ Cls K C ∧ NoAttr K C "votes" ∧ ∃ v, fs.lookup (Str.ofString "votes") = some v ∧ R v := fld S.o T.c_Saying.c T.n_Saying_votes (fs_votes _ _) q
theorem SayAt.fstruck (S : SayAt K H a x v r) (T : Txt K mg base) (q : R (.bl r.struck)) : ∃ C dx fs, H a = some (.ins C dx fs) ∧ Cls K C ∧ NoAttr K C "is_struck" ∧ ∃ v, fs.lookup (Str.ofString "is_struck") = some v ∧ R v := fld S.o T.c_Saying.c T.n_Saying_is_struck (fs_struck _ _) q
end
theorem votes_at {vs : List (Str × Int)} (nd : (vs.map (·.1)).Nodup) {p : Str × Int} (hp : p ∈ vs) : valV (votesK vs) (Sum.inr p.1) = some (.int p.2) := by
  induction vs with
  | nil => cases hp
  | cons q r ih =>
    simp only [List.map_cons, List.nodup_cons] at nd
    rcases List.mem_cons.mp hp with rfl | hp
    · exact valV_pos rfl
    · have h : ¬ (Sum.inr q.1 : Key) = Sum.inr p.1 := fun e => nd.1 (List.mem_map.mpr ⟨p, hp, (Sum.inr.inj e).symm⟩)
      show valV (voteK q :: votesK r) _ = _
      rw [valV_neg h]
      exact ih nd.2 hp
theorem len_if {l : List (Str × Int)} {c : Str × Int → Prop} [DecidablePred c] {f : Str × Int → V} : (l.filterMap fun p => if c p then some (f p) else none).length = (l.filter fun p => decide (c p)).length := by
  induction l with
  | nil => rfl
  | cons a r ih =>
    by_cases h : c a
    · simp [List.filterMap_cons, List.filter_cons, h, ih]
    · simp [List.filterMap_cons, List.filter_cons, h, ih]
section
variable {P : Program} {w : World} {K : PySem.W.Frag} {mg : Str → Option Value} {base : Heap}
/-! ### Saying.__init__ -/
def spSayInit (K : PySem.W.Frag) : Sp := fun vs H Q _ => ∃ (a x : Addr) (who text : Str) (under time : Int), vs = [.ref a, .str who, .int under, .str text, .int time] ∧ H a = some (.ins (cS K) x []) ∧
  ∀ v H', H v = none → SayAt K H' a x v ⟨who, under, text, time, [], false⟩ → (∀ b o, b ≠ a → H b = some o → H' b = some o) → Q .non H'
abbrev N_Saying___init__ : List Str := ["self", "by", "under", "text", "time"]
theorem sc_Saying___init__ : FnScope N_Saying___init__ ["self", "by", "under", "text", "time"] (defScope s_Saying___init__) := ⟨rfl, rfl, rfl, by decide +kernel, rfl, by decide +kernel, by decide +kernel⟩
theorem be_Saying___init__ : BindEq "__init__" "Saying.__init__" s_Saying___init__ ["self", "by", "under", "text", "time"] := fun _ _ _ _ _ _ us hl => match us, hl with | [_, _, _, _, _], _ => rfl
theorem D_Saying___init__ (T : Txt K mg base) : Def P w K mg base 1 (He.ma K (He.ga K "Saying") "__init__") ["self", "by", "under", "text", "time"] (spSayInit K) := by
  refine mk_def T.f_Saying___init__ sc_Saying___init__ be_Saying___init__ (fun vs H Q E h => ?_) (fun cdv A outer s H vs Q E hr h => ?_)
  · obtain ⟨a, x, who, text, under, time, rfl, _⟩ := h
    rfl
  · obtain ⟨a, x, who, text, under, time, rfl, ha, k⟩ := h
    refine ⟨_, (pss_cons (ps_fld (pv 0) (pv 1) (by rfl))
      (pss_cons (ps_fld (pv 0) (pv 2) (by rfl))
      (pss_cons (ps_fld (pv 0) (pv 3) (by rfl))
      (pss_cons (ps_fld (pv 0) (pv 4) (by rfl))
      (pss_cons (ps_fld (pv 0) pe_dnewK (by rfl))
      (pss_one (ps_fld (pv 0) pe_bl (by rfl)))))))), ?_⟩
    walk_at "rd"
    refine ⟨_, _, _, ha, T.c_Saying.c, T.n_Saying_by, by decide, _, _, _, upd_same, T.c_Saying.c, T.n_Saying_under, by simp [putF], _, _, _, upd_same, T.c_Saying.c, T.n_Saying_text, by simp [putF, ofString_inj], _, _, _, upd_same, T.c_Saying.c, T.n_Saying_time, by simp [putF, ofString_inj], fun v hv => ?_⟩
    simp only [upd_upd] at hv ⊢
    have nva : v ≠ a := fun z => by
      rw [z, upd_same] at hv
      cases hv
    refine ⟨_, _, _, by rw [upd_ne nva.symm, upd_same], T.c_Saying.c, T.n_Saying_votes, by simp [putF, ofString_inj], _, _, _, upd_same, T.c_Saying.c, T.n_Saying_is_struck, by simp [putF, ofString_inj], ?_⟩
    refine k v _ (by rw [upd_ne nva] at hv; exact hv) ⟨?_, ?_, List.nodup_nil, by show 0 < 100000; decide⟩ (fun b o hb e => ?_)
    · rw [upd_same]
      simp [putF, ofString_inj, sayFs]
    · rw [upd_ne nva, upd_same]
      rfl
    · have nbv : b ≠ v := fun z => by
        rw [z] at e
        rw [upd_ne nva, e] at hv
        cases hv
      rw [upd_ne hb, upd_ne nbv, upd_ne hb]
      exact e
/-! ### Saying.ups, downs, points -/
def spUps (K : PySem.W.Frag) (f : Row → Int) : Sp := fun vs H Q _ => ∃ (a x v : Addr) (r : Row), vs = [.ref a] ∧ SayAt K H a x v r ∧ ∀ H', Same H H' → Q (.int (f r)) H'
abbrev N_Saying_ups : List Str := ["self", "name"]
theorem sc_Saying_ups : FnScope N_Saying_ups ["self"] (defScope s_Saying_ups) := ⟨rfl, rfl, rfl, by decide +kernel, rfl, by decide +kernel, by decide +kernel⟩
theorem be_Saying_ups : BindEq "ups" "Saying.ups" s_Saying_ups ["self"] := fun _ _ _ _ _ _ us hl => match us, hl with | [_], _ => rfl
theorem D_Saying_ups (T : Txt K mg base) : Def P w K mg base 1 (He.ma K (He.ga K "Saying") "ups") ["self"] (spUps K Row.ups) := by
  refine mk_def T.f_Saying_ups sc_Saying_ups be_Saying_ups (fun vs H Q E h => ?_) (fun cdv A outer s H vs Q E hr h => ?_)
  · obtain ⟨a, x, v, r, rfl, _⟩ := h
    rfl
  · obtain ⟨a, x, v, r, rfl, S, k⟩ := h
    refine ⟨_, (pss_one (ps_ret (pe_callB call_len_seq (by rfl) T.b_len (by decide +kernel) (pa_cons (pe_lock (pe_lc (own := [("name", 1)]) (g := gName 1) rfl sc_Saying_ups.nd (pi_keys (pe_fld (pv 0) (by rfl))) (blkOk_by (N := N_Saying_ups) (sc := defScope s_Saying_ups) (by decide +kernel)) (fun _ _ _ _ _ => by exact (pg_name (i := 1) sc_Saying_ups.nd rfl (Or.inl rfl))) (fun _ _ _ _ _ => by exact (pts_one (pt_cmpR op_gt (pe_dg (pe_fldK K (pv 0)) (pv 1) (by exact hu_of hr)) pe_int (nomark _)))) (fun _ _ _ _ _ => by exact (pv 1)))) pa_nil)))), ?_⟩
    walk_at "rd"
    have nav : a ≠ v := ne_of S.o S.d (by intro q; cases q)
    have nd := S.nd
    refine lcK (l := r.votes) (d := v) voteK (fun p => if 0 < p.2 then some (.str p.1) else none) S.d (fun H' R hk q => ?_) (by have := S.sz; rw [sizeLine_eq]; omega) (fun p H' od hp hk hv N1 N0 k1 k0 => ?_) (fun D H' hD s1 e => ?_)
    · walk_at "rd"
      exact fld (hk _ _ nav S.o) T.c_Saying.c T.n_Saying_votes (fs_votes _ _) q
    · walk_at "rd"
      refine fld (hk _ _ nav S.o) T.c_Saying.c T.n_Saying_votes (fs_votes _ _) ⟨_, rfl, _, .inl ⟨_, _, .inr ⟨_, hv⟩, rfl, (votes_at nd hp).symm⟩, _, rfl, ?_⟩
      by_cases c : 0 < p.2
      · rw [decide_eq_true c]
        exact iteT (k1 _ _ (Same.refl _) (if_pos c))
      · rw [decide_eq_false c]
        exact iteF (k0 _ (Same.refl _) (if_neg c))
    · refine ⟨_, rfl, _, .inl (SqL.of e), ?_⟩
      rw [len_if]
      exact k H' s1
abbrev N_Saying_downs : List Str := ["self", "name"]
theorem sc_Saying_downs : FnScope N_Saying_downs ["self"] (defScope s_Saying_downs) := ⟨rfl, rfl, rfl, by decide +kernel, rfl, by decide +kernel, by decide +kernel⟩
theorem be_Saying_downs : BindEq "downs" "Saying.downs" s_Saying_downs ["self"] := fun _ _ _ _ _ _ us hl => match us, hl with | [_], _ => rfl
theorem D_Saying_downs (T : Txt K mg base) : Def P w K mg base 1 (He.ma K (He.ga K "Saying") "downs") ["self"] (spUps K Row.downs) := by
  refine mk_def T.f_Saying_downs sc_Saying_downs be_Saying_downs (fun vs H Q E h => ?_) (fun cdv A outer s H vs Q E hr h => ?_)
  · obtain ⟨a, x, v, r, rfl, _⟩ := h
    rfl
  · obtain ⟨a, x, v, r, rfl, S, k⟩ := h
    refine ⟨_, (pss_one (ps_ret (pe_callB call_len_seq (by rfl) T.b_len (by decide +kernel) (pa_cons (pe_lock (pe_lc (own := [("name", 1)]) (g := gName 1) rfl sc_Saying_downs.nd (pi_keys (pe_fld (pv 0) (by rfl))) (blkOk_by (N := N_Saying_downs) (sc := defScope s_Saying_downs) (by decide +kernel)) (fun _ _ _ _ _ => by exact (pg_name (i := 1) sc_Saying_downs.nd rfl (Or.inl rfl))) (fun _ _ _ _ _ => by exact (pts_one (pt_cmpR op_lt (pe_dg (pe_fldK K (pv 0)) (pv 1) (by exact hu_of hr)) pe_int (nomark _)))) (fun _ _ _ _ _ => by exact (pv 1)))) pa_nil)))), ?_⟩
    walk_at "rd"
    have nav : a ≠ v := ne_of S.o S.d (by intro q; cases q)
    have nd := S.nd
    refine lcK (l := r.votes) (d := v) voteK (fun p => if p.2 < 0 then some (.str p.1) else none) S.d (fun H' R hk q => ?_) (by have := S.sz; rw [sizeLine_eq]; omega) (fun p H' od hp hk hv N1 N0 k1 k0 => ?_) (fun D H' hD s1 e => ?_)
    · walk_at "rd"
      exact fld (hk _ _ nav S.o) T.c_Saying.c T.n_Saying_votes (fs_votes _ _) q
    · walk_at "rd"
      refine fld (hk _ _ nav S.o) T.c_Saying.c T.n_Saying_votes (fs_votes _ _) ⟨_, rfl, _, .inl ⟨_, _, .inr ⟨_, hv⟩, rfl, (votes_at nd hp).symm⟩, _, rfl, ?_⟩
      by_cases c : p.2 < 0
      · rw [decide_eq_true c]
        exact iteT (k1 _ _ (Same.refl _) (if_pos c))
      · rw [decide_eq_false c]
        exact iteF (k0 _ (Same.refl _) (if_neg c))
    · refine ⟨_, rfl, _, .inl (SqL.of e), ?_⟩
      rw [len_if]
      exact k H' s1
abbrev N_Saying_points : List Str := ["self"]
theorem sc_Saying_points : FnScope N_Saying_points ["self"] (defScope s_Saying_points) := ⟨rfl, rfl, rfl, by decide +kernel, rfl, by decide +kernel, by decide +kernel⟩
theorem be_Saying_points : BindEq "points" "Saying.points" s_Saying_points ["self"] := fun _ _ _ _ _ _ us hl => match us, hl with | [_], _ => rfl
theorem D_Saying_points (T : Txt K mg base) : Def P w K mg base 2 (He.ma K (He.ga K "Saying") "points") ["self"] (spUps K Row.points) := by
  refine mk_def T.f_Saying_points sc_Saying_points be_Saying_points (fun vs H Q E h => ?_) (fun cdv A outer s H vs Q E hr h => ?_)
  · obtain ⟨a, x, v, r, rfl, _⟩ := h
    rfl
  · obtain ⟨a, x, v, r, rfl, S, k⟩ := h
    refine ⟨_, (pss_one (ps_ret (pe_op op_sub (pe_md0 (pv 0) T.c_Saying.c T.m_Saying_ups (D_Saying_ups T) (by exact hr.mono (by first | decide | omega)) passE) (pe_md0 (pv 0) T.c_Saying.c T.m_Saying_downs (D_Saying_downs T) (by exact hr.mono (by first | decide | omega)) passE)))), ?_⟩
    walk_at "rd"
    refine ⟨_, _, S.o, fs_ups _ _, a, x, v, r, rfl, S, fun H1 s1 => ?_⟩
    have S1 := S.same s1
    refine ⟨_, _, S1.o, fs_downs _ _, a, x, v, r, rfl, S1, fun H2 s2 => ?_⟩
    exact ⟨_, rfl, _, rfl, k H2 (s1.trans s2)⟩
end
end Vw
namespace Vw
open PySem PySem.Spec PyProof.Rows L2
local macro_rules | `(tactic| walk_at "rd") => `(tactic| simp only [tSeq, tNext, tIfS, tAsg, tRet, tRetN, tDrop, tVar, tC, tOp, tUn, tTest, tB, tAnd, tOr, tNot, tAndV, tOrV, tNotV, tIf, tChain, tCB, tCons, tNil, tCall, tMeth, tMake, tFld, sFld, tTup, tLst, tTupS, tLstS, tDNewKS, tDNewTS, tTold, tCmp, t2I, tIsN, tNotN, tPar, gName, gNil, gCons, gTup, gSub, rI0, rU, rEq, rNe, tDGet, tDIn, tDNotIn, sDPut, tDNewK, tDGet1, tDGet2, tDPop1, tDPop2, tBM, tBM0, tM0, tM1, tSl, tPart, tNoPart, tBreak, tCont, tThru, L2.start, List.map_cons, List.map_nil, List.length_cons, List.length_nil, List.cons_append, List.nil_append, List.append_nil, List.replicate_succ, List.replicate_zero, Nat.reduceAdd, Nat.reduceSub, Nat.zero_add, List.getElem?_cons_zero, List.getElem?_cons_succ, List.set_cons_zero, List.set_cons_succ, wipe, cxOf_K, tYes, List.cons.injEq, and_self, Option.some.injEq, V.int.injEq, V.bl.injEq, V.ref.injEq, V.str.injEq, exists_eq_left', exists_eq_left, exists_and_left, and_assoc, true_and, and_true, if_true, if_false, ite_true, ite_false, Bool.not_true, Bool.not_false, Bool.false_eq_true, reduceIte])
/-! ### a wood in the heap -/
structure Ent where
  n : Int
  row : Row
  a : Addr
  x : Addr
  v : Addr
structure Lay where
  p : Addr
  dx : Addr
  d : Addr
  ents : List Ent
  came : Int
  clock : Int
def entK (e : Ent) : Key × V := (Sum.inl e.n, .ref e.a)
structure WoodAt (K : PySem.W.Frag) (H : Hp) (L : Lay) : Prop where
  top : H L.p = some (.ins (cW K) L.dx (woodFs L.d L.came L.clock))
  dic : H L.d = some (.dK (L.ents.map entK))
  say : ∀ e ∈ L.ents, SayAt K H e.a e.x e.v e.row
  nk : (L.ents.map (·.n)).Nodup
  nda : (L.ents.map (·.a)).Nodup
  ndv : (L.ents.map (·.v)).Nodup
  dv : ∀ e ∈ L.ents, e.v ≠ L.d
  pa : ∀ e ∈ L.ents, e.a ≠ L.p
  sz : L.ents.length < 100000
theorem WoodAt.same {K : PySem.W.Frag} {H H' : Hp} {L : Lay} (W : WoodAt K H L) (s : Same H H') : WoodAt K H' L :=
  ⟨s _ _ W.top, s _ _ W.dic, fun e he => (W.say e he).same s, W.nk, W.nda, W.ndv, W.dv, W.pa, W.sz⟩
def findE (es : List Ent) (n : Int) : Option Ent := es.find? fun e => decide (e.n = n)
theorem findE_mem {es : List Ent} {n : Int} {e : Ent} (h : findE es n = some e) : e ∈ es ∧ e.n = n := ⟨List.mem_of_find?_eq_some h, by have := List.find?_some h; simpa using this⟩
theorem findE_of {es : List Ent} (nk : (es.map (·.n)).Nodup) {e : Ent} (he : e ∈ es) : findE es e.n = some e := by
  induction es with
  | nil => cases he
  | cons q r ih =>
    simp only [List.map_cons, List.nodup_cons] at nk
    unfold findE
    rw [List.find?_cons]
    rcases List.mem_cons.mp he with rfl | he
    · simp
    · have h : ¬ q.n = e.n := fun z => nk.1 (List.mem_map.mpr ⟨e, he, z.symm⟩)
      simp only [h, decide_false]
      exact ih nk.2 he
theorem valE (es : List Ent) (n : Int) : valV (es.map entK) (Sum.inl n) = (findE es n).map fun e => V.ref e.a := by
  induction es with
  | nil => rfl
  | cons q r ih =>
    unfold findE
    rw [List.map_cons, List.find?_cons]
    by_cases h : q.n = n
    · rw [valV_pos (show (entK q).1 = Sum.inl n from congrArg Sum.inl h)]
      simp [h, entK]
    · rw [valV_neg (show ¬ (entK q).1 = Sum.inl n from fun e => h (Sum.inl.inj e)), ih]
      simp only [h, decide_false]
      rfl
section
variable {K : PySem.W.Frag} {mg : Str → Option Value} {base : Heap} {H : Hp} {L : Lay} {R : V → Prop}
theorem WoodAt.fsay (W : WoodAt K H L) (T : Txt K mg base) (q : R (.ref L.d)) : ∃ C dx fs, H L.p = some (.ins C dx fs) ∧ Cls K C ∧ NoAttr K C "sayings" ∧ ∃ v, fs.lookup (Str.ofString "sayings") = some v ∧ R v := fld W.top T.c_Wood.c T.n_Wood_sayings (fw_sayings _ _ _) q
theorem WoodAt.fcame (W : WoodAt K H L) (T : Txt K mg base) (q : R (.int L.came)) : ∃ C dx fs, H L.p = some (.ins C dx fs) ∧ Cls K C ∧ NoAttr K C "came" ∧ ∃ v, fs.lookup (Str.ofString "came") = some v ∧ R v := fld W.top T.c_Wood.c T.n_Wood_came (fw_came _ _ _) q
theorem WoodAt.fclock (W : WoodAt K H L) (T : Txt K mg base) (q : R (.int L.clock)) : ∃ C dx fs, H L.p = some (.ins C dx fs) ∧ Cls K C ∧ NoAttr K C "clock" ∧ ∃ v, fs.lookup (Str.ofString "clock") = some v ∧ R v := fld W.top T.c_Wood.c T.n_Wood_clock (fw_clock _ _ _) q
/-- o[n], n there -/
theorem WoodAt.at {R : V → Prop} (W : WoodAt K H L) {n : Int} {e : Ent} (he : findE L.ents n = some e) (q : R (.ref e.a)) : ∃ a, V.ref L.d = V.ref a ∧ ∃ x, DGet H a (.int n) (some x) ∧ R x :=
  ⟨_, rfl, _, .inl ⟨_, Sum.inl n, .inl W.dic, rfl, by rw [valE, he]; rfl⟩, q⟩
end
def sortI (l : List Int) : List Int := l.mergeSort fun a b => decide (a ≤ b)
theorem sortI_perm (l : List Int) : (sortI l).Perm l := List.mergeSort_perm l _
theorem sortI_le (l : List Int) : (sortI l).Pairwise (· ≤ ·) := by
  have h := List.pairwise_mergeSort (le := fun a b : Int => decide (a ≤ b)) (by intro a b c h1 h2; simp only [decide_eq_true_eq] at *; omega) (by intro a b; simp only [Bool.or_eq_true, decide_eq_true_eq]; omega) l
  exact h.imp fun h => by simpa using h
theorem sortI_eq {a b : List Int} (hp : a.Perm b) (ha : a.Pairwise (· ≤ ·)) : a = sortI b := (hp.trans (sortI_perm b).symm).eq_of_pairwise (fun x y _ _ h1 h2 => Int.le_antisymm h1 h2) ha (sortI_le b)
theorem sortI_self {a : List Int} (ha : a.Pairwise (· ≤ ·)) : sortI a = a := (sortI_eq (List.Perm.refl a) ha).symm
theorem sortI_length (l : List Int) : (sortI l).length = l.length := (sortI_perm l).length_eq
section
variable {P : Program} {w : World} {K : PySem.W.Frag} {mg : Str → Option Value} {base : Heap}
/-! ### Wood.__init__, now, tick -/
def spWoodInit (K : PySem.W.Frag) : Sp := fun vs H Q _ => ∃ (p dx : Addr), vs = [.ref p] ∧ H p = some (.ins (cW K) dx []) ∧
  ∀ d H', H d = none → WoodAt K H' ⟨p, dx, d, [], 0, 0⟩ → (∀ b o, b ≠ p → H b = some o → H' b = some o) → Q .non H'
abbrev N_Wood___init__ : List Str := ["self"]
theorem sc_Wood___init__ : FnScope N_Wood___init__ ["self"] (defScope s_Wood___init__) := ⟨rfl, rfl, rfl, by decide +kernel, rfl, by decide +kernel, by decide +kernel⟩
theorem be_Wood___init__ : BindEq "__init__" "Wood.__init__" s_Wood___init__ ["self"] := fun _ _ _ _ _ _ us hl => match us, hl with | [_], _ => rfl
theorem D_Wood___init__ (T : Txt K mg base) : Def P w K mg base 1 (He.ma K (He.ga K "Wood") "__init__") ["self"] (spWoodInit K) := by
  refine mk_def T.f_Wood___init__ sc_Wood___init__ be_Wood___init__ (fun vs H Q E h => ?_) (fun cdv A outer s H vs Q E hr h => ?_)
  · obtain ⟨a, x, rfl, _⟩ := h
    rfl
  · obtain ⟨p, dx, rfl, hp, k⟩ := h
    refine ⟨_, (pss_cons (ps_fld (pv 0) pe_dnewK (by rfl))
      (pss_cons (ps_fld (pv 0) pe_int (by rfl))
      (pss_one (ps_fld (pv 0) pe_int (by rfl))))), ?_⟩
    walk_at "rd"
    intro d hd
    have npd : p ≠ d := ne_of_none hp hd
    refine ⟨_, _, _, by rw [upd_ne npd]; exact hp, T.c_Wood.c, T.n_Wood_sayings, by decide, _, _, _, upd_same, T.c_Wood.c, T.n_Wood_came, by simp [putF], _, _, _, upd_same, T.c_Wood.c, T.n_Wood_clock, by simp [putF, ofString_inj], ?_⟩
    simp only [upd_upd]
    refine k d _ hd ⟨?_, ?_, (fun e he => nomatch he), List.nodup_nil, List.nodup_nil, List.nodup_nil, (fun e he => nomatch he), (fun e he => nomatch he), (by show 0 < 100000; decide)⟩ (fun b o hb e => ?_)
    · rw [upd_same]
      simp [putF, ofString_inj, woodFs]
    · rw [upd_ne npd.symm, upd_same]
      rfl
    · rw [upd_ne hb, upd_ne (ne_of_none e hd)]
      exact e
def spNow (K : PySem.W.Frag) : Sp := fun vs H Q _ => ∃ L : Lay, vs = [.ref L.p] ∧ WoodAt K H L ∧ Q (.int L.clock) H
theorem WoodAt.setTop {K : PySem.W.Frag} {H : Hp} {L : Lay} (W : WoodAt K H L) (c k : Int) : WoodAt K (upd H L.p (.ins (cW K) L.dx (woodFs L.d c k))) { L with came := c, clock := k } := by
  have npd : L.d ≠ L.p := ne_of W.dic W.top (by intro q; cases q)
  refine ⟨upd_same, by show upd H L.p _ L.d = _; rw [upd_ne npd]; exact W.dic, fun e he => ?_, W.nk, W.nda, W.ndv, W.dv, W.pa, W.sz⟩
  have S := W.say e he
  exact ⟨by rw [upd_ne (W.pa e he)]; exact S.o, by rw [upd_ne (ne_of S.d W.top (by intro q; cases q))]; exact S.d, S.nd, S.sz⟩
def spTick (K : PySem.W.Frag) : Sp := fun vs H Q E => ∃ (L : Lay) (x : V) (d : PyData), vs = [.ref L.p, x] ∧ WoodAt K H L ∧ Dp K H x d ∧
  (∀ n : Int, d = .int n → isCount d 0 1000 = true → ∀ H', WoodAt K H' { L with clock := L.clock + n } → (∀ b o, b ≠ L.p → H b = some o → H' b = some o) → Q .non H') ∧ (isCount d 0 1000 = false → Bad K E .number H)
abbrev N_Wood_tick : List Str := ["self", "many"]
theorem sc_Wood_tick : FnScope N_Wood_tick ["self", "many"] (defScope s_Wood_tick) := ⟨rfl, rfl, rfl, by decide +kernel, rfl, by decide +kernel, by decide +kernel⟩
theorem be_Wood_tick : BindEq "tick" "Wood.tick" s_Wood_tick ["self", "many"] := fun _ _ _ _ _ _ us hl => match us, hl with | [_, _], _ => rfl
theorem D_Wood_tick (T : Txt K mg base) : Def P w K mg base 2 (He.ma K (He.ga K "Wood") "tick") ["self", "many"] (spTick K) := by
  refine mk_def T.f_Wood_tick sc_Wood_tick be_Wood_tick (fun vs H Q E h => ?_) (fun cdv A outer s H vs Q E hr h => ?_)
  · obtain ⟨L, x, d, rfl, _⟩ := h
    rfl
  · obtain ⟨L, x, d, rfl, W, hx, k1, k0⟩ := h
    refine ⟨_, (pss_cons (ps_if (pt_not (pt_val (pe_cd (D_is_count T) (by exact hr.mono (by first | decide | omega)) T.g_is_count passE (pa_cons (pv 1) (pa_cons pe_int (pa_cons (pe_gk T.k_MOST_TICKS) pa_nil)))))) (pss_one (ps_rs T.x_BadNumber)) pss_nil)
      (pss_one (ps_fld (pv 0) (pe_op op_add (pe_fld (pv 0) (by rfl)) (pv 1)) (by rfl)))), ?_⟩
    walk_at "rd"
    refine ⟨x, d, _, _, rfl, hx, _, rfl, ?_⟩
    cases c : isCount d 0 1000 with
    | false => exact iteT (k0 c)
    | true =>
      refine iteF ?_
      cases hx with
      | int n =>
        refine W.fclock T ⟨_, rfl, _, rfl, _, _, _, W.top, T.c_Wood.c, T.n_Wood_clock, by rw [fw_len]; decide, ?_⟩
        rw [fpw_clock]
        exact k1 n rfl c _ (W.setTop _ _) (fun b o hb e => by rw [upd_ne hb]; exact e)
      | _ => cases c
/-! ### Wood.saying, numbers -/
def sayingD (L : Lay) (d : PyData) : Option Ent := match d with
  | .int n => if 1 ≤ n ∧ n ≤ L.came then findE L.ents n else none
  | _ => none
def spSaying (K : PySem.W.Frag) : Sp := fun vs H Q E => ∃ (L : Lay) (x : V) (d : PyData), vs = [.ref L.p, x] ∧ WoodAt K H L ∧ Dp K H x d ∧ (∀ e, sayingD L d = some e → Q (.ref e.a) H) ∧ (sayingD L d = none → Bad K E .no H)
abbrev N_Wood_saying : List Str := ["self", "number"]
theorem sc_Wood_saying : FnScope N_Wood_saying ["self", "number"] (defScope s_Wood_saying) := ⟨rfl, rfl, rfl, by decide +kernel, rfl, by decide +kernel, by decide +kernel⟩
theorem be_Wood_saying : BindEq "saying" "Wood.saying" s_Wood_saying ["self", "number"] := fun _ _ _ _ _ _ us hl => match us, hl with | [_, _], _ => rfl
theorem D_Wood_saying (T : Txt K mg base) : Def P w K mg base 2 (He.ma K (He.ga K "Wood") "saying") ["self", "number"] (spSaying K) := by
  refine mk_def T.f_Wood_saying sc_Wood_saying be_Wood_saying (fun vs H Q E h => ?_) (fun cdv A outer s H vs Q E hr h => ?_)
  · obtain ⟨L, x, d, rfl, _⟩ := h
    rfl
  · obtain ⟨L, x, d, rfl, W, hx, k1, k0⟩ := h
    refine ⟨_, (pss_cons (ps_if (PW.pt (pw_or (pt_not (pt_val (pe_cd (D_is_count T) (by exact hr.mono (by first | decide | omega)) T.g_is_count passE (pa_cons (pv 1) (pa_cons pe_int (pa_cons (pe_fld (pv 0) (by rfl)) pa_nil)))))) (pw_or1 (pt_cmp (pc_dni (pv 1) (pe_fld (pv 0) (by rfl)) (by exact hu_of hr)))))) (pss_one (ps_rs T.x_NoSaying)) pss_nil)
      (pss_one (ps_ret (pe_dg (pe_fld (pv 0) (by rfl)) (pv 1) (by exact hu_of hr))))), ?_⟩
    walk_at "rd"
    refine W.fcame T ⟨x, d, 1, L.came, rfl, hx, _, rfl, ?_⟩
    cases c : isCount d 1 L.came with
    | false =>
      refine iteT (k0 ?_)
      cases d with
      | int n =>
        have h : ¬ (1 ≤ n ∧ n ≤ L.came) := fun h => by simp [isCount, h.1, h.2] at c
        exact if_neg h
      | _ => rfl
    | true =>
      refine iteF ?_
      cases hx with
      | int n =>
        have h : 1 ≤ n ∧ n ≤ L.came := by simpa [isCount] using c
        have es : sayingD L (.int n) = findE L.ents n := if_pos h
        refine W.fsay T ⟨_, rfl, _, .inl ⟨_, Sum.inl n, .inl W.dic, rfl, rfl⟩, ?_⟩
        rw [valE]
        cases f : findE L.ents n with
        | none => exact iteT (k0 (es.trans f))
        | some e => exact iteF (W.fsay T (W.at f (k1 e (es.trans f))))
      | _ => cases c
def spNumbers (K : PySem.W.Frag) : Sp := fun vs H Q _ => ∃ L : Lay, vs = [.ref L.p] ∧ WoodAt K H L ∧ L.ents.length < 64 ∧ ∀ p H', H p = none → Same H H' → H' p = some (.lst ((sortI (L.ents.map (·.n))).map V.int)) → Q (.ref p) H'
abbrev N_Wood_numbers : List Str := ["self"]
theorem sc_Wood_numbers : FnScope N_Wood_numbers ["self"] (defScope s_Wood_numbers) := ⟨rfl, rfl, rfl, by decide +kernel, rfl, by decide +kernel, by decide +kernel⟩
theorem be_Wood_numbers : BindEq "numbers" "Wood.numbers" s_Wood_numbers ["self"] := fun _ _ _ _ _ _ us hl => match us, hl with | [_], _ => rfl
theorem D_Wood_numbers (T : Txt K mg base) : Def P w K mg base 1 (He.ma K (He.ga K "Wood") "numbers") ["self"] (spNumbers K) := by
  refine mk_def T.f_Wood_numbers sc_Wood_numbers be_Wood_numbers (fun vs H Q E h => ?_) (fun cdv A outer s H vs Q E hr h => ?_)
  · obtain ⟨L, rfl, _⟩ := h
    rfl
  · obtain ⟨L, rfl, W, hl, k⟩ := h
    refine ⟨_, (pss_one (ps_ret (pe_callB (call_sortedDI rfl) (by rfl) T.b_sorted (by decide +kernel) (pa_cons (pe_fld (pv 0) (by rfl)) pa_nil)))), ?_⟩
    walk_at "rd"
    refine W.fsay T ⟨_, rfl, _, .inl W.dic, L.ents.map (·.n), ?_, by simpa using hl, fun ys p hp hs hn => ?_⟩
    · simp [entK]
    · rw [sortI_eq hp hs]
      exact k p _ hn (Same.new hn) upd_same
end
end Vw
namespace Vw
open PySem PySem.Spec PyProof.Rows L2
/-! ### rows by numbers, what is above and below -/
abbrev Rows := List (Int × Row)
def findR (rs : Rows) (n : Int) : Option Row := (rs.find? fun p => decide (p.1 = n)).map (·.2)
def upR (rs : Rows) (n : Int) : Int := ((findR rs n).map (·.under)).getD 0
def aboveR (rs : Rows) (n : Int) : List Int := if h : 0 < n ∧ 0 ≤ upR rs n ∧ upR rs n < n then upR rs n :: aboveR rs (upR rs n) else []
termination_by n.toNat
decreasing_by omega
structure Wf (rs : Rows) : Prop where
  nk : (rs.map (·.1)).Nodup
  pos : ∀ p ∈ rs, 0 < p.1
  u0 : ∀ p ∈ rs, 0 ≤ p.2.under
  ult : ∀ p ∈ rs, p.2.under < p.1
  has : ∀ p ∈ rs, p.2.under = 0 ∨ ∃ r, findR rs p.2.under = some r
theorem findR_mem {rs : Rows} {n : Int} {r : Row} (h : findR rs n = some r) : (n, r) ∈ rs := by
  unfold findR at h
  cases e : rs.find? fun p => decide (p.1 = n) with
  | none => rw [e] at h; cases h
  | some p =>
    rw [e] at h
    have h1 := List.mem_of_find?_eq_some e
    have h2 := List.find?_some e
    simp only [decide_eq_true_eq] at h2
    simp only [Option.map_some, Option.some.injEq] at h
    rw [← h, ← h2]
    exact h1
theorem findR_of {rs : Rows} (nk : (rs.map (·.1)).Nodup) {n : Int} {r : Row} (h : (n, r) ∈ rs) : findR rs n = some r := by
  induction rs with
  | nil => cases h
  | cons q t ih =>
    simp only [List.map_cons, List.nodup_cons] at nk
    unfold findR
    rw [List.find?_cons]
    rcases List.mem_cons.mp h with rfl | h
    · simp
    · have hn : ¬ q.1 = n := fun z => nk.1 (List.mem_map.mpr ⟨(n, r), h, z.symm⟩)
      simp only [hn, decide_false]
      exact ih nk.2 h
theorem findR_none {rs : Rows} {n : Int} : findR rs n = none ↔ ∀ p ∈ rs, p.1 ≠ n := by
  unfold findR
  rw [Option.map_eq_none_iff, List.find?_eq_none]
  simp
section
variable {rs : Rows} (F : Wf rs)
include F
theorem Wf.up {n : Int} {r : Row} (h : findR rs n = some r) : upR rs n = r.under ∧ 0 < n ∧ 0 ≤ r.under ∧ r.under < n := by
  have m := findR_mem h
  refine ⟨by unfold upR; rw [h]; rfl, F.pos _ m, F.u0 _ m, F.ult _ m⟩
theorem Wf.above {n : Int} {r : Row} (h : findR rs n = some r) : aboveR rs n = r.under :: aboveR rs r.under := by
  obtain ⟨e, h1, h2, h3⟩ := F.up h
  rw [aboveR, dif_pos (by rw [e]; exact ⟨h1, h2, h3⟩), e]
end
theorem above_zero (rs : Rows) : aboveR rs 0 = [] := by
  rw [aboveR, dif_neg (by omega)]
/-- all above a saying is less, and is 0 or there -/
theorem Wf.above_lt {rs : Rows} (F : Wf rs) : ∀ (k : Nat) (n : Int), n.toNat ≤ k → ∀ m ∈ aboveR rs n, 0 ≤ m ∧ m < n ∧ (m = 0 ∨ ∃ r, findR rs m = some r)
  | k, n, hk, m, hm => by
    rw [aboveR] at hm
    split at hm
    · rename_i h
      rcases List.mem_cons.mp hm with rfl | hm
      · refine ⟨h.2.1, h.2.2, ?_⟩
        cases e : findR rs n with
        | none =>
          left
          unfold upR
          rw [e]
          rfl
        | some r =>
          rw [(F.up e).1]
          exact F.has _ (findR_mem e)
      · cases k with
        | zero => omega
        | succ k =>
          obtain ⟨h1, h2, h3⟩ := Wf.above_lt F k (upR rs n) (by omega) m hm
          exact ⟨h1, by omega, h3⟩
    · cases hm
/-- what is under one, at any depth: all for 0 -/
def beneathR (rs : Rows) (n : Int) : List Int := (rs.map (·.1)).filter fun m => decide (n ∈ aboveR rs m)
def repliesR (rs : Rows) (n : Int) : List Int := (rs.filter fun p => decide (p.2.under = n)).map (·.1)
def deepI (rs : Rows) (n : Int) : Nat := (aboveR rs n).length - 1
structure Wd where
  rows : Rows
  came : Int
  clock : Int
def sayingM (M : Wd) (d : PyData) : Option (Int × Row) := match d with
  | .int n => if 1 ≤ n ∧ n ≤ M.came then (findR M.rows n).map fun r => (n, r) else none
  | _ => none
def underOk (M : Wd) : PyData → Bool
  | .int n => decide (n = 0) || (decide (1 ≤ n) && decide (n ≤ M.came) && (findR M.rows n).isSome)
  | _ => false
def sayM (M : Wd) (b u t : PyData) : Except Er (Int × Wd) :=
  if nameOk b = false then .error .name else if underOk M u = false then .error .no else if textOk t = false then .error .text else match b, u, t with
  | .str who, .int n, .str text => if 60 ≤ M.rows.length ∨ (n ≠ 0 ∧ 8 ≤ deepI M.rows n + 1) then .error .full
    else .ok (M.came + 1, ⟨M.rows ++ [(M.came + 1, ⟨who, n, text, M.clock, [], false⟩)], M.came + 1, M.clock⟩)
  | _, _, _ => .error .name
def isS : PyData → Str → Bool
  | .str z, w => decide (z = w)
  | _, _ => false
def ownM (M : Wd) (d b : PyData) : Except Er (Int × Row) := match sayingM M d with
  | none => .error .no
  | some (n, r) => if nameOk b = false then .error .name else if isS b r.who = true ∧ r.struck = false then .ok (n, r) else .error .yours
def setR (rs : Rows) (n : Int) (r : Row) : Rows := rs.map fun p => if p.1 = n then (n, r) else p
def changeM (M : Wd) (d b t : PyData) : Except Er Wd := match ownM M d b with
  | .error e => .error e
  | .ok (n, r) => match t with
    | .str z => if textZ z then .ok { M with rows := setR M.rows n { r with text := z } } else .error .text
    | _ => .error .text
def dropR (rs : Rows) (n : Int) : Rows := rs.filter fun p => decide (p.1 ≠ n)
/-- struck ones without anything under them go, from n upwards: what is left, how many went -/
def goneR (rs : Rows) (n : Int) : Rows × Int := match findR rs n with
  | none => (rs, 0)
  | some r => if h : 0 < n ∧ 0 ≤ r.under ∧ r.under < n ∧ r.struck = true ∧ repliesR rs n = [] then let g := goneR (dropR rs n) r.under; (g.1, g.2 + 1) else (rs, 0)
termination_by n.toNat
decreasing_by omega
def strikeM (M : Wd) (d b : PyData) : Except Er (Int × Wd) := match ownM M d b with
  | .error e => .error e
  | .ok (n, r) => .ok ((goneR (setR M.rows n { r with struck := true }) n).2, { M with rows := (goneR (setR M.rows n { r with struck := true }) n).1 })
/-- votes behind a vote -/
def votesM (vs : List (Str × Int)) (who : Str) (way : Int) : List (Str × Int) :=
  let us := vs.filter fun p => decide (p.1 ≠ who)
  if way = 0 then us else us ++ [(who, way)]
def voteM (M : Wd) (d b wy : PyData) : Except Er (Int × Wd) := match sayingM M d with
  | none => .error .no
  | some (n, r) => if nameOk b = false then .error .name else if isCount wy (-1) 1 = false then .error .number else match b, wy with
    | .str who, .int way => if r.who = who ∨ r.struck = true then .error .yours else
      .ok (Row.points { r with votes := votesM r.votes who way }, { M with rows := setR M.rows n { r with votes := votesM r.votes who way } })
    | _, _ => .error .name
def standingM (M : Wd) (who : Str) : Int := ((M.rows.filter fun p => decide (p.2.who = who) && !p.2.struck).map fun p => p.2.points).sum
end Vw
namespace Vw
open PySem PySem.Spec PyProof.Rows L2
local macro_rules | `(tactic| walk_at "rd") => `(tactic| simp only [tSeq, tNext, tIfS, tAsg, tRet, tRetN, tDrop, tVar, tC, tOp, tUn, tTest, tB, tAnd, tOr, tNot, tAndV, tOrV, tNotV, tIf, tChain, tCB, tCons, tNil, tCall, tMeth, tMake, tFld, sFld, tTup, tLst, tTupS, tLstS, tDNewKS, tDNewTS, tTold, tCmp, t2I, tIsN, tNotN, tPar, gName, gNil, gCons, gTup, gSub, rI0, rU, rEq, rNe, tDGet, tDIn, tDNotIn, sDPut, tDNewK, tDGet1, tDGet2, tDPop1, tDPop2, tBM, tBM0, tM0, tM1, tSl, tPart, tNoPart, tBreak, tCont, tThru, L2.start, List.map_cons, List.map_nil, List.length_cons, List.length_nil, List.cons_append, List.nil_append, List.append_nil, List.replicate_succ, List.replicate_zero, Nat.reduceAdd, Nat.reduceSub, Nat.zero_add, List.getElem?_cons_zero, List.getElem?_cons_succ, List.set_cons_zero, List.set_cons_succ, wipe, cxOf_K, tYes, List.cons.injEq, and_self, Option.some.injEq, V.int.injEq, V.bl.injEq, V.ref.injEq, V.str.injEq, exists_eq_left', exists_eq_left, exists_and_left, and_assoc, true_and, and_true, if_true, if_false, ite_true, ite_false, Bool.not_true, Bool.not_false, Bool.false_eq_true, reduceIte])
def Lay.rows (L : Lay) : Rows := L.ents.map fun e => (e.n, e.row)
def Lay.wd (L : Lay) : Wd := ⟨L.rows, L.came, L.clock⟩
theorem findRE (es : List Ent) (n : Int) : findR (es.map fun e => (e.n, e.row)) n = (findE es n).map (·.row) := by
  unfold findR findE
  rw [List.find?_map]
  show Option.map _ (Option.map _ (List.find? (fun e => decide (e.n = n)) es)) = _
  cases List.find? (fun e => decide (e.n = n)) es <;> rfl
theorem Lay.find (L : Lay) (n : Int) : findR L.rows n = (findE L.ents n).map (·.row) := findRE _ _
theorem sayingME (L : Lay) (d : PyData) : sayingM L.wd d = (sayingD L d).map fun e => (e.n, e.row) := by
  cases d with
  | int n =>
    unfold sayingM sayingD
    by_cases h : 1 ≤ n ∧ n ≤ L.came
    · show (if 1 ≤ n ∧ n ≤ L.came then _ else _) = Option.map _ (if 1 ≤ n ∧ n ≤ L.came then _ else _)
      rw [if_pos h, if_pos h]
      show Option.map _ (findR L.rows n) = _
      rw [L.find]
      cases f : findE L.ents n with
      | none => rfl
      | some e =>
        have := (findE_mem f).2
        simp [this]
    · show (if 1 ≤ n ∧ n ≤ L.came then _ else _) = Option.map _ (if 1 ≤ n ∧ n ≤ L.came then _ else _)
      rw [if_neg h, if_neg h]
      rfl
  | _ => rfl
theorem sayingD_mem {L : Lay} {d : PyData} {e : Ent} (h : sayingD L d = some e) : e ∈ L.ents := by
  cases d with
  | int n =>
    unfold sayingD at h
    by_cases c : 1 ≤ n ∧ n ≤ L.came
    · exact (findE_mem ((if_pos c).symm.trans h)).1
    · have h' : (none : Option Ent) = some e := (if_neg c).symm.trans h
      cases h'
  | _ => cases h
theorem use_neD {K : PySem.W.Frag} {H : Hp} {x y : V} {d e : PyData} {Q : VK} (hx : Dp K H x d) (hy : Dp K H y e) (s1 : SeqAt.shaped d = true) (s2 : SeqAt.shaped e = true) (q : Q (.bl (!PyData.eqv d e)) H) : rNeD K x y H Q := ⟨d, e, hx, hy, s1, s2, q⟩
theorem use_eqD {K : PySem.W.Frag} {H : Hp} {x y : V} {d e : PyData} {Q : VK} (hx : Dp K H x d) (hy : Dp K H y e) (s1 : SeqAt.shaped d = true) (s2 : SeqAt.shaped e = true) (q : Q (.bl (PyData.eqv d e)) H) : rEqD K x y H Q := ⟨d, e, hx, hy, s1, s2, q⟩
theorem eqv_str (a b : Str) : PyData.eqv (.str a) (.str b) = decide (a = b) := by
  first
  | rfl
  | simp [PyData.eqv]
theorem eqv_int (a b : Int) : PyData.eqv (.int a) (.int b) = decide (a = b) := by
  first
  | rfl
  | simp [PyData.eqv]
theorem filterMap_if {α β : Type} {l : List α} {c : α → Prop} [DecidablePred c] {f : α → β} : (l.filterMap fun p => if c p then some (f p) else none) = (l.filter fun p => decide (c p)).map f := by
  induction l with
  | nil => rfl
  | cons a r ih =>
    by_cases h : c a
    · simp [List.filterMap_cons, List.filter_cons, h, ih]
    · simp [List.filterMap_cons, List.filter_cons, h, ih]
theorem filter_sortI (l : List Int) (c : Int → Bool) : (sortI l).filter c = sortI (l.filter c) := sortI_eq ((sortI_perm l).filter c) ((sortI_le l).sublist List.filter_sublist)
theorem dps_ints {K : PySem.W.Frag} {H : Hp} : ∀ ns : List Int, DpAll K H (ns.map V.int) (ns.map PyData.int)
  | [] => .nil
  | n :: r => .cons (.int n) (dps_ints r)
theorem canLay_ints : ∀ ns : List Int, PyData.canLayAll0 (ns.map PyData.int) = true
  | [] => rfl
  | n :: r => by simp only [List.map_cons, PyData.canLayAll0, PyData.canLay0, canLay_ints r, Bool.and_self]
theorem depth_ints : ∀ ns : List Int, PyData.depthAll (ns.map PyData.int) = 0
  | [] => rfl
  | n :: r => by simp only [List.map_cons, PyData.depthAll, PyData.depth, depth_ints r, Nat.max_self]
theorem shaped_ints (ns : List Int) : SeqAt.shaped (.list (ns.map PyData.int)) = true := by
  simp [SeqAt.shaped, PyData.canLay0, PyData.depth, canLay_ints, depth_ints]
theorem eqvAll_ints : ∀ a b : List Int, PyData.eqvAll (a.map PyData.int) (b.map PyData.int) = decide (a = b)
  | [], [] => by simp [PyData.eqvAll]
  | [], _ :: _ => by simp [PyData.eqvAll]
  | _ :: _, [] => by simp [PyData.eqvAll]
  | x :: a, y :: b => by
    simp only [List.map_cons, PyData.eqvAll, eqvAll_ints a b, eqv_int]
    by_cases h : x = y <;> by_cases h2 : a = b <;> simp [h, h2]
theorem eqv_ints (a b : List Int) : PyData.eqv (.list (a.map PyData.int)) (.list (b.map PyData.int)) = decide (a = b) := by
  simp only [PyData.eqv, eqvAll_ints]
theorem dp_ints {K : PySem.W.Frag} {H : Hp} {p : Addr} {ns : List Int} (h : H p = some (.lst (ns.map V.int))) : Dp K H (.ref p) (.list (ns.map PyData.int)) := .lst (SqL.of h) (dps_ints ns)
/-- there, or 0 -/
def Here (L : Lay) (n : Int) : Prop := n = 0 ∨ ∃ e, findE L.ents n = some e
section
variable {P : Program} {w : World} {K : PySem.W.Frag} {mg : Str → Option Value} {base : Heap}
def spDeep (K : PySem.W.Frag) : Sp := fun vs H Q _ => ∃ (L : Lay) (n : Int), vs = [.ref L.p, .int n] ∧ WoodAt K H L ∧ Wf L.rows ∧ Here L n ∧ Q (.int (deepI L.rows n : Nat)) H
abbrev N_Wood_deep : List Str := ["self", "number", "found"]
theorem sc_Wood_deep : FnScope N_Wood_deep ["self", "number"] (defScope s_Wood_deep) := ⟨rfl, rfl, rfl, by decide +kernel, rfl, by decide +kernel, by decide +kernel⟩
theorem be_Wood_deep : BindEq "deep" "Wood.deep" s_Wood_deep ["self", "number"] := fun _ _ _ _ _ _ us hl => match us, hl with | [_, _], _ => rfl
theorem D_Wood_deep (T : Txt K mg base) : Def P w K mg base 1 (He.ma K (He.ga K "Wood") "deep") ["self", "number"] (spDeep K) := by
  refine mk_def T.f_Wood_deep sc_Wood_deep be_Wood_deep (fun vs H Q E h => ?_) (fun cdv A outer s H vs Q E hr h => ?_)
  · obtain ⟨L, n, rfl, _⟩ := h
    rfl
  · obtain ⟨L, n, rfl, W, F, hn, k⟩ := h
    refine ⟨_, (pss_cons (ps_set (i := 2) sc_Wood_deep.nd rfl (Or.inl rfl) pe_int)
      (pss_cons (ps_while ownE (PW.pt (pw_and (pt_cmpR op_ne (pv 1) pe_int (nomark _)) (pw_and1 (pt_cmpR op_ne (pe_fld (pe_dg (pe_fld (pv 0) (by rfl)) (pv 1) (by exact hu_of hr)) (by rfl)) pe_int (nomark _))))) (pss_cons (ps_set (i := 1) sc_Wood_deep.nd rfl (Or.inl rfl) (pe_fld (pe_dg (pe_fld (pv 0) (by rfl)) (pv 1) (by exact hu_of hr)) (by rfl)))
      (pss_one (ps_set (i := 2) sc_Wood_deep.nd rfl (Or.inl rfl) (pe_op op_add (pv 2) pe_int)))))
      (pss_one (ps_ret (pv 2))))), ?_⟩
    walk_at "rd"
    refine ⟨fun m σ H' => H' = H ∧ ∃ (i : Int) (f : Nat), σ = [some (.ref L.p), some (.int i), some (.int f)] ∧ m = i.toNat ∧ Here L i ∧ f + deepI L.rows i = deepI L.rows n, ⟨_, rfl, n, 0, rfl, rfl, hn, by omega⟩, ?_⟩
    rintro m σ H' ⟨rfl, i, f, rfl, rfl, hi, ef⟩
    walk_at "rd"
    refine ⟨rfl, ?_⟩
    by_cases h0 : i = 0
    · rw [decide_eq_true h0]
      refine iteF ?_
      have e0 : deepI L.rows i = 0 := by rw [h0]; simp [deepI, above_zero]
      rw [show f = deepI L.rows n by omega]
      exact k
    · rw [decide_eq_false h0]
      obtain ⟨e, he⟩ := hi.resolve_left h0
      have S := W.say e (findE_mem he).1
      have hr : findR L.rows i = some e.row := by rw [L.find, he]; rfl
      have ab := F.above hr
      obtain ⟨_, p1, p2, p3⟩ := F.up hr
      refine iteT (W.fsay T (W.at he ⟨_, rfl, S.funder T ⟨rfl, ?_⟩⟩))
      by_cases u0 : e.row.under = 0
      · rw [decide_eq_true (show V.int e.row.under = V.int 0 by rw [u0])]
        refine iteF ?_
        have e0 : deepI L.rows i = 0 := by simp [deepI, ab, u0, above_zero]
        rw [show f = deepI L.rows n by omega]
        exact k
      · rw [decide_eq_false (show ¬ V.int e.row.under = V.int 0 from fun z => u0 (V.int.inj z))]
        have hu : Here L e.row.under := by
          rcases F.has _ (findR_mem hr) with z | ⟨r, z⟩
          · exact absurd z u0
          · right
            rw [L.find] at z
            cases q : findE L.ents e.row.under with
            | none => rw [q] at z; cases z
            | some e' => exact ⟨e', rfl⟩
        have hd : deepI L.rows i = deepI L.rows e.row.under + 1 := by
          obtain ⟨e', q⟩ := hu.resolve_left u0
          have ab' := F.above (n := e.row.under) (r := e'.row) (by rw [L.find, q]; rfl)
          simp [deepI, ab, ab']
        refine iteT ⟨_, fun _ _ h => h, W.fsay T (W.at he ⟨_, rfl, S.funder T ⟨e.row.under.toNat, by omega, rfl, e.row.under, f + 1, ?_, rfl, hu, by omega⟩⟩)⟩
        simp
def spLook (K : PySem.W.Frag) : Sp := fun vs H Q E => ∃ (L : Lay) (x : V) (d : PyData), vs = [.ref L.p, x] ∧ WoodAt K H L ∧ Dp K H x d ∧ (∀ e, sayingD L d = some e → ∀ p H', H p = none → Same H H' → H' p = some (.tup [.str e.row.who, .int e.row.under, if e.row.struck then .non else .str e.row.text, .int e.row.time]) → Q (.ref p) H') ∧ (sayingD L d = none → Bad K E .no H)
abbrev N_Wood_look : List Str := ["self", "number", "one"]
theorem sc_Wood_look : FnScope N_Wood_look ["self", "number"] (defScope s_Wood_look) := ⟨rfl, rfl, rfl, by decide +kernel, rfl, by decide +kernel, by decide +kernel⟩
theorem be_Wood_look : BindEq "look" "Wood.look" s_Wood_look ["self", "number"] := fun _ _ _ _ _ _ us hl => match us, hl with | [_, _], _ => rfl
theorem D_Wood_look (T : Txt K mg base) : Def P w K mg base 3 (He.ma K (He.ga K "Wood") "look") ["self", "number"] (spLook K) := by
  refine mk_def T.f_Wood_look sc_Wood_look be_Wood_look (fun vs H Q E h => ?_) (fun cdv A outer s H vs Q E hr h => ?_)
  · obtain ⟨L, x, d, rfl, _⟩ := h
    rfl
  · obtain ⟨L, x, d, rfl, W, hx, k1, k0⟩ := h
    refine ⟨_, (pss_cons (ps_set (i := 2) sc_Wood_look.nd rfl (Or.inl rfl) (pe_md (pv 0) T.c_Wood.c T.m_Wood_saying (D_Wood_saying T) (by exact hr.mono (by first | decide | omega)) passE (pa_cons (pv 1) pa_nil)))
      (pss_one (ps_ret (pe_tup (pa_cons (pe_fld (pv 2) (by rfl)) (pa_cons (pe_fld (pv 2) (by rfl)) (pa_cons (pe_ifExp (pt_val (pe_fld (pv 2) (by rfl))) pe_non (pe_fld (pv 2) (by rfl))) (pa_cons (pe_fld (pv 2) (by rfl)) pa_nil)))))))), ?_⟩
    walk_at "rd"
    refine ⟨_, _, W.top, fw_no _ _ _ (by decide) (by decide) (by decide), L, x, d, rfl, W, hx, fun e he => ?_, k0⟩
    have S := W.say e (sayingD_mem he)
    refine ⟨_, rfl, S.fby T ⟨_, rfl, S.funder T ⟨_, rfl, S.fstruck T ⟨_, rfl, ?_⟩⟩⟩⟩
    have k2 := k1 e he
    cases c : e.row.struck with
    | true =>
      rw [c] at k2
      refine iteT ⟨_, rfl, S.ftime T ⟨by show 4 ≤ sizeLine; decide, fun p hp => k2 p _ hp (Same.new hp) upd_same⟩⟩
    | false =>
      rw [c] at k2
      refine iteF ⟨_, rfl, S.ftext T ⟨_, rfl, S.ftime T ⟨by show 4 ≤ sizeLine; decide, fun p hp => k2 p _ hp (Same.new hp) upd_same⟩⟩⟩
def spOwn (K : PySem.W.Frag) : Sp := fun vs H Q E => ∃ (L : Lay) (x y : V) (d b : PyData), vs = [.ref L.p, x, y] ∧ WoodAt K H L ∧ Dp K H x d ∧ Dp K H y b ∧ Short b ∧ (∀ r, ownM L.wd d b = .error r → ∀ H', Same H H' → Bad K E r H') ∧ (∀ n r, ownM L.wd d b = .ok (n, r) → ∀ e, findE L.ents n = some e → e.row = r → ∀ H', Same H H' → Q (.ref e.a) H')
abbrev N_Wood_own : List Str := ["self", "number", "by", "one"]
theorem sc_Wood_own : FnScope N_Wood_own ["self", "number", "by"] (defScope s_Wood_own) := ⟨rfl, rfl, rfl, by decide +kernel, rfl, by decide +kernel, by decide +kernel⟩
theorem be_Wood_own : BindEq "own" "Wood.own" s_Wood_own ["self", "number", "by"] := fun _ _ _ _ _ _ us hl => match us, hl with | [_, _, _], _ => rfl
theorem D_Wood_own (T : Txt K mg base) : Def P w K mg base 3 (He.ma K (He.ga K "Wood") "own") ["self", "number", "by"] (spOwn K) := by
  refine mk_def T.f_Wood_own sc_Wood_own be_Wood_own (fun vs H Q E h => ?_) (fun cdv A outer s H vs Q E hr h => ?_)
  · obtain ⟨L, x, y, d, b, rfl, _⟩ := h
    rfl
  · obtain ⟨L, x, y, d, b, rfl, W, hx, hy, hz, k0, k1⟩ := h
    refine ⟨_, (pss_cons (ps_set (i := 3) sc_Wood_own.nd rfl (Or.inl rfl) (pe_md (pv 0) T.c_Wood.c T.m_Wood_saying (D_Wood_saying T) (by exact hr.mono (by first | decide | omega)) passE (pa_cons (pv 1) pa_nil)))
      (pss_cons (ps_expr (pe_cd (D_need_name T) (by exact hr.mono (by first | decide | omega)) T.g_need_name passE (pa_cons (pv 2) pa_nil)))
      (pss_cons (ps_if (PW.pt (pw_or (pt_cmpR op_ne (pe_fld (pv 3) (by rfl)) (pv 2) (nomark _)) (pw_or1 (pt_val (pe_fld (pv 3) (by rfl)))))) (pss_one (ps_rs T.x_NotYours)) pss_nil)
      (pss_one (ps_ret (pv 3)))))), ?_⟩
    walk_at "rd"
    refine ⟨_, _, W.top, fw_no _ _ _ (by decide) (by decide) (by decide), L, x, d, rfl, W, hx, fun e he => ?_, fun h => k0 _ ?_ H (Same.refl H)⟩
    · have S := W.say e (sayingD_mem he)
      have em : sayingM L.wd d = some (e.n, e.row) := by rw [sayingME, he]; rfl
      refine ⟨y, b, rfl, hy, hz, fun hb H1 s1 => ?_, fun hb H1 s1 => k0 _ ?_ H1 s1⟩
      · have S1 := S.same s1
        have hb0 : ¬ nameOk b = false := by rw [hb]; decide
        cases hy with
        | str z =>
          refine ⟨_, rfl, S1.fby T ⟨rfl, ?_⟩⟩
          have eo : ownM L.wd d (.str z) = if isS (.str z) e.row.who = true ∧ e.row.struck = false then .ok (e.n, e.row) else .error .yours := by
            unfold ownM
            rw [em]
            exact if_neg hb0
          by_cases hw : e.row.who = z
          · rw [decide_eq_true (show V.str e.row.who = V.str z by rw [hw])]
            refine iteF ⟨_, rfl, S1.fstruck T ⟨_, rfl, ?_⟩⟩
            cases c : e.row.struck with
            | true =>
              refine iteT (k0 .yours ?_ H1 s1)
              rw [eo, c]
              simp
            | false =>
              refine iteF (k1 e.n e.row ?_ e (findE_of W.nk (sayingD_mem he)) rfl H1 s1)
              rw [eo, c]
              simp [isS, hw]
          · rw [decide_eq_false (show ¬ V.str e.row.who = V.str z from fun q => hw (V.str.inj q))]
            refine iteT (k0 .yours ?_ H1 s1)
            rw [eo]
            simp [isS, Ne.symm hw]
        | _ => cases hb
      · unfold ownM
        rw [em]
        exact if_pos hb
    · unfold ownM
      rw [sayingME, h]
      rfl
def spReplies (K : PySem.W.Frag) : Sp := fun vs H Q E => ∃ (L : Lay) (n : Int), vs = [.ref L.p, .int n] ∧ WoodAt K H L ∧ L.ents.length < 64 ∧ ∀ p H', H p = none → Same H H' → H' p = some (.lst ((sortI (repliesR L.rows n)).map V.int)) → Q (.ref p) H'
abbrev N_Wood_replies : List Str := ["self", "number", "one"]
theorem sc_Wood_replies : FnScope N_Wood_replies ["self", "number"] (defScope s_Wood_replies) := ⟨rfl, rfl, rfl, by decide +kernel, rfl, by decide +kernel, by decide +kernel⟩
theorem be_Wood_replies : BindEq "replies" "Wood.replies" s_Wood_replies ["self", "number"] := fun _ _ _ _ _ _ us hl => match us, hl with | [_, _], _ => rfl
theorem D_Wood_replies (T : Txt K mg base) : Def P w K mg base 2 (He.ma K (He.ga K "Wood") "replies") ["self", "number"] (spReplies K) := by
  refine mk_def T.f_Wood_replies sc_Wood_replies be_Wood_replies (fun vs H Q E h => ?_) (fun cdv A outer s H vs Q E hr h => ?_)
  · obtain ⟨L, n, rfl, _⟩ := h
    rfl
  · obtain ⟨L, n, rfl, W, hl, k⟩ := h
    refine ⟨_, (pss_one (ps_ret (pe_lc (own := [("one", 2)]) (g := gName 2) rfl sc_Wood_replies.nd (pi_list (pe_md0 (pv 0) T.c_Wood.c T.m_Wood_numbers (D_Wood_numbers T) (by exact hr.mono (by first | decide | omega)) passE)) (blkOk_by (N := N_Wood_replies) (sc := defScope s_Wood_replies) (by decide +kernel)) (fun _ _ _ _ _ => by exact (pg_name (i := 2) sc_Wood_replies.nd rfl (Or.inl rfl))) (fun _ _ _ _ _ => by exact (pts_one (pt_cmpR op_eq (pe_fldK K (pe_dg (pe_fldK K (pv 0)) (pv 2) (by exact hu_of hr))) (pv 1) (nomark _)))) (fun _ _ _ _ _ => by exact (pv 2))))), ?_⟩
    walk_at "rd"
    refine lcL (l := sortI (L.ents.map (·.n))) V.int (fun m => if upR L.rows m = n then some (.int m) else none) (fun R r => ?_) (by rw [sortI_length, List.length_map, sizeLine_eq]; omega) (fun m H' hm s1 N1 N0 q1 q0 => ?_) (fun D H' hD s1 e => k D H' hD s1 ?_)
    · walk_at "rd"
      exact ⟨_, _, W.top, fw_no _ _ _ (by decide) (by decide) (by decide), L, rfl, W, hl, fun p H' hp s1 e => r p H' s1 (SqL.of e)⟩
    · have W1 := W.same s1
      obtain ⟨e, he, rfl⟩ : ∃ e, e ∈ L.ents ∧ e.n = m := by
        have := (sortI_perm _).mem_iff.mp hm
        simpa using this
      have fe := findE_of W.nk he
      have S := W1.say e he
      have eu : upR L.rows e.n = e.row.under := by unfold upR; rw [L.find, fe]; rfl
      walk_at "rd"
      refine W1.fsay T (W1.at fe ⟨_, rfl, S.funder T ⟨rfl, ?_⟩⟩)
      by_cases c : e.row.under = n
      · rw [decide_eq_true (show V.int e.row.under = V.int n by rw [c])]
        exact iteT (q1 _ _ (Same.refl _) (if_pos (eu.trans c)))
      · rw [decide_eq_false (show ¬ V.int e.row.under = V.int n from fun z => c (V.int.inj z))]
        exact iteF (q0 _ (Same.refl _) (if_neg fun z => c (eu.symm.trans z)))
    · rw [e, filterMap_if, filter_sortI]
      have : (L.ents.map (·.n)).filter (fun m => decide (upR L.rows m = n)) = repliesR L.rows n := by
        unfold repliesR Lay.rows
        rw [List.filter_map, List.filter_map, List.map_map]
        show List.map _ _ = List.map _ _
        congr 1
        apply List.filter_congr
        intro e he
        show decide (upR L.rows e.n = n) = decide (e.row.under = n)
        have fe := findE_of W.nk he
        have eu : upR L.rows e.n = e.row.under := by unfold upR; rw [L.find, fe]; rfl
        rw [eu]
      rw [this]
end
end Vw
namespace Vw
open PySem PySem.Spec PyProof.Rows L2
/-! ### above and below: the mathematics -/
theorem above_lt {rs : Rows} (F : Wf rs) {n m : Int} (h : m ∈ aboveR rs n) : 0 ≤ m ∧ m < n ∧ (m = 0 ∨ ∃ r, findR rs m = some r) := F.above_lt n.toNat n (Nat.le_refl _) m h
theorem above_trans {rs : Rows} (F : Wf rs) : ∀ (k : Nat) {x c m : Int}, x.toNat ≤ k → c ∈ aboveR rs x → m ∈ aboveR rs c → m ∈ aboveR rs x
  | k, x, c, m, hk, hc, hm => by
    rw [aboveR] at hc
    split at hc
    · rename_i h
      rw [aboveR, dif_pos h]
      rcases List.mem_cons.mp hc with rfl | hc
      · exact List.mem_cons_of_mem _ hm
      · cases k with
        | zero => omega
        | succ k => exact List.mem_cons_of_mem _ (above_trans F k (by omega) hc hm)
    · cases hc
/-- the way up is one: of two on it the lesser one is above the greater one -/
theorem above_one {rs : Rows} (F : Wf rs) : ∀ (k : Nat) {x c1 c2 : Int}, x.toNat ≤ k → (c1 = x ∨ c1 ∈ aboveR rs x) → (c2 = x ∨ c2 ∈ aboveR rs x) → c2 < c1 → c2 ∈ aboveR rs c1
  | k, x, c1, c2, hk, h1, h2, hlt => by
    rcases h1 with rfl | h1
    · rcases h2 with rfl | h2
      · omega
      · exact h2
    · have l1 := above_lt F h1
      rcases h2 with rfl | h2
      · omega
      · rw [aboveR] at h1 h2
        split at h1
        · rename_i h
          rw [dif_pos h] at h2
          cases k with
          | zero => omega
          | succ k => exact above_one F k (x := upR rs x) (by omega) (List.mem_cons.mp h1) (List.mem_cons.mp h2) hlt
        · cases h1
theorem mem_keys {rs : Rows} {n : Int} : n ∈ rs.map (·.1) ↔ ∃ r, (n, r) ∈ rs := by simp
theorem mem_replies {rs : Rows} {c n : Int} : c ∈ repliesR rs n ↔ ∃ r, (c, r) ∈ rs ∧ r.under = n := by
  unfold repliesR
  simp only [List.mem_map, List.mem_filter, decide_eq_true_eq]
  constructor
  · rintro ⟨p, ⟨h1, h2⟩, rfl⟩
    exact ⟨p.2, h1, h2⟩
  · rintro ⟨r, h1, h2⟩
    exact ⟨(c, r), ⟨h1, h2⟩, rfl⟩
theorem mem_beneath {rs : Rows} {m n : Int} : m ∈ beneathR rs n ↔ (∃ r, (m, r) ∈ rs) ∧ n ∈ aboveR rs m := by
  unfold beneathR
  rw [List.mem_filter, mem_keys]
  simp
theorem reply_above {rs : Rows} (F : Wf rs) {c n : Int} (h : c ∈ repliesR rs n) : aboveR rs c = n :: aboveR rs n := by
  obtain ⟨r, h1, h2⟩ := mem_replies.mp h
  rw [F.above (findR_of F.nk h1), h2]
/-- from x up to n there is one right under n -/
theorem above_child {rs : Rows} (F : Wf rs) : ∀ (k : Nat) {x n : Int}, x.toNat ≤ k → (∃ r, findR rs x = some r) → n ∈ aboveR rs x → ∃ c ∈ repliesR rs n, c = x ∨ c ∈ aboveR rs x
  | k, x, n, hk, ⟨r, hr⟩, h => by
    have ab := F.above hr
    obtain ⟨e, p1, p2, p3⟩ := F.up hr
    rw [ab] at h
    rcases List.mem_cons.mp h with rfl | h
    · exact ⟨x, mem_replies.mpr ⟨r, findR_mem hr, rfl⟩, .inl rfl⟩
    · rcases F.has _ (findR_mem hr) with z | ⟨r', hr'⟩
      · have z : r.under = 0 := z
        rw [z, above_zero] at h
        cases h
      · cases k with
        | zero => omega
        | succ k =>
          obtain ⟨c, hc, h'⟩ := above_child F k (x := r.under) (by omega) ⟨r', hr'⟩ h
          refine ⟨c, hc, .inr ?_⟩
          rw [ab]
          rcases h' with rfl | h'
          · exact List.mem_cons_self
          · exact List.mem_cons_of_mem _ h'
theorem nodup_replies {rs : Rows} (nk : (rs.map (·.1)).Nodup) (n : Int) : (repliesR rs n).Nodup := by
  unfold repliesR
  exact nk.sublist (List.Sublist.map _ List.filter_sublist)
theorem nodup_beneath {rs : Rows} (nk : (rs.map (·.1)).Nodup) (n : Int) : (beneathR rs n).Nodup := nk.sublist List.filter_sublist
theorem beneath_step {rs : Rows} (F : Wf rs) (n : Int) : ((repliesR rs n).flatMap fun c => c :: beneathR rs c).Perm (beneathR rs n) := by
  rw [List.perm_ext_iff_of_nodup]
  · intro x
    simp only [List.mem_flatMap, List.mem_cons, mem_beneath]
    constructor
    · rintro ⟨c, hc, rfl | ⟨hx, hcx⟩⟩
      · obtain ⟨r, h1, _⟩ := mem_replies.mp hc
        exact ⟨⟨r, h1⟩, by rw [reply_above F hc]; exact List.mem_cons_self⟩
      · exact ⟨hx, above_trans F _ (Nat.le_refl _) hcx (by rw [reply_above F hc]; exact List.mem_cons_self)⟩
    · rintro ⟨⟨r, hr⟩, h⟩
      obtain ⟨c, hc, h'⟩ := above_child F _ (Nat.le_refl _) ⟨r, findR_of F.nk hr⟩ h
      rcases h' with rfl | h'
      · exact ⟨c, hc, .inl rfl⟩
      · exact ⟨c, hc, .inr ⟨⟨r, hr⟩, h'⟩⟩
  · unfold List.Nodup
    rw [List.pairwise_flatMap]
    constructor
    · intro c hc
      refine List.pairwise_cons.mpr ⟨fun m hm => ?_, nodup_beneath F.nk c⟩
      have := (above_lt F (mem_beneath.mp hm).2).2.1
      omega
    · refine (nodup_replies F.nk n).imp_of_mem fun {a b} ha hb hab x hx y hy => ?_
      rintro rfl
      have sa : a = x ∨ a ∈ aboveR rs x := by
        rcases List.mem_cons.mp hx with h | h
        · exact .inl h.symm
        · exact .inr (mem_beneath.mp h).2
      have sb : b = x ∨ b ∈ aboveR rs x := by
        rcases List.mem_cons.mp hy with h | h
        · exact .inl h.symm
        · exact .inr (mem_beneath.mp h).2
      have ga := reply_above F ha
      have gb := reply_above F hb
      have la : n < a := (above_lt F (show n ∈ aboveR rs a by rw [ga]; exact List.mem_cons_self)).2.1
      have lb : n < b := (above_lt F (show n ∈ aboveR rs b by rw [gb]; exact List.mem_cons_self)).2.1
      rcases Int.lt_trichotomy a b with h | h | h
      · have z := above_one F _ (Nat.le_refl _) sb sa h
        rw [gb] at z
        rcases List.mem_cons.mp z with z | z
        · omega
        · have := (above_lt F z).2.1
          omega
      · exact hab h
      · have z := above_one F _ (Nat.le_refl _) sa sb h
        rw [ga] at z
        rcases List.mem_cons.mp z with z | z
        · omega
        · have := (above_lt F z).2.1
          omega
  · exact nodup_beneath F.nk n
/-- a wood that can be -/
structure Good (M : Wd) : Prop where
  wf : Wf M.rows
  le : ∀ p ∈ M.rows, p.1 ≤ M.came
  dp : ∀ p ∈ M.rows, (aboveR M.rows p.1).length ≤ 8
  len : M.rows.length ≤ 60
theorem Good.dp0 {M : Wd} (G : Good M) {n : Int} (h : n = 0 ∨ ∃ r, findR M.rows n = some r) : (aboveR M.rows n).length ≤ 8 := by
  rcases h with rfl | ⟨r, h⟩
  · rw [above_zero]
    decide
  · exact G.dp _ (findR_mem h)
theorem Wf.find0 {rs : Rows} (F : Wf rs) : findR rs 0 = none := by
  rw [findR_none]
  intro p hp e
  have := F.pos p hp
  omega
/-! ### a row set, a row gone -/
theorem setR_keys (rs : Rows) (n : Int) (r : Row) : (setR rs n r).map (·.1) = rs.map (·.1) := by
  unfold setR
  rw [List.map_map]
  apply List.map_congr_left
  intro p _
  show (if p.1 = n then (n, r) else p).1 = p.1
  split
  · rename_i h
    exact h.symm
  · rfl
theorem findR_setR (rs : Rows) (n m : Int) (r : Row) : findR (setR rs n r) m = if m = n then (findR rs n).map fun _ => r else findR rs m := by
  unfold findR setR
  rw [List.find?_map]
  by_cases h : m = n
  · subst h
    rw [if_pos rfl]
    have : ((fun p : Int × Row => decide (p.1 = m)) ∘ fun p : Int × Row => if p.1 = m then (m, r) else p) = fun p => decide (p.1 = m) := by
      funext p
      show decide ((if p.1 = m then (m, r) else p).1 = m) = decide (p.1 = m)
      by_cases c : p.1 = m <;> simp [c]
    rw [this]
    cases e : List.find? (fun p : Int × Row => decide (p.1 = m)) rs with
    | none => rfl
    | some p =>
      have := List.find?_some e
      simp only [decide_eq_true_eq] at this
      simp [this]
  · rw [if_neg h]
    have : ((fun p : Int × Row => decide (p.1 = m)) ∘ fun p : Int × Row => if p.1 = n then (n, r) else p) = fun p => decide (p.1 = m) := by
      funext p
      show decide ((if p.1 = n then (n, r) else p).1 = m) = decide (p.1 = m)
      by_cases c : p.1 = n
      · have h1 : ¬ n = m := fun z => h z.symm
        have h2 : ¬ p.1 = m := fun z => h (z.symm.trans c)
        simp [c, h1]
      · simp [c]
    rw [this]
    cases e : List.find? (fun p : Int × Row => decide (p.1 = m)) rs with
    | none => rfl
    | some p =>
      have := List.find?_some e
      simp only [decide_eq_true_eq] at this
      have : ¬ p.1 = n := fun z => h (this.symm.trans z)
      simp [this]
theorem findR_set {rs : Rows} (nk : (rs.map (·.1)).Nodup) {n : Int} {r r' : Row} (h : findR rs n = some r) : findR (setR rs n r') n = some r' := by
  rw [findR_setR, if_pos rfl, h]
  rfl
theorem mem_setR {rs : Rows} {n : Int} {r : Row} {p : Int × Row} (h : p ∈ setR rs n r) : (p = (n, r) ∧ ∃ r0, (n, r0) ∈ rs) ∨ (p ∈ rs ∧ p.1 ≠ n) := by
  obtain ⟨q, hq, e⟩ := List.mem_map.mp h
  by_cases c : q.1 = n
  · rw [if_pos c] at e
    refine .inl ⟨e.symm, q.2, ?_⟩
    rw [← c]
    exact hq
  · rw [if_neg c] at e
    subst e
    exact .inr ⟨hq, c⟩
theorem Wf.set {rs : Rows} (F : Wf rs) {n : Int} {r r' : Row} (h : findR rs n = some r) (hu : r'.under = r.under) : Wf (setR rs n r') := by
  have hm := findR_mem h
  refine ⟨by rw [setR_keys]; exact F.nk, fun p hp => ?_, fun p hp => ?_, fun p hp => ?_, fun p hp => ?_⟩
  · rcases mem_setR hp with ⟨rfl, _⟩ | ⟨hp, _⟩
    · have := F.pos _ hm
      exact this
    · exact F.pos _ hp
  · rcases mem_setR hp with ⟨rfl, _⟩ | ⟨hp, _⟩
    · show 0 ≤ r'.under
      rw [hu]
      exact F.u0 _ hm
    · exact F.u0 _ hp
  · rcases mem_setR hp with ⟨rfl, _⟩ | ⟨hp, _⟩
    · show r'.under < n
      rw [hu]
      exact F.ult _ hm
    · exact F.ult _ hp
  · have key : ∀ u : Int, (u = 0 ∨ ∃ z, findR rs u = some z) → (u = 0 ∨ ∃ z, findR (setR rs n r') u = some z) := fun u q => by
      rcases q with q | ⟨z, q⟩
      · exact .inl q
      · right
        rw [findR_setR]
        by_cases c : u = n
        · rw [if_pos c, h]
          exact ⟨_, rfl⟩
        · rw [if_neg c]
          exact ⟨z, q⟩
    rcases mem_setR hp with ⟨rfl, _⟩ | ⟨hp, _⟩
    · apply key
      show r'.under = 0 ∨ _
      rw [hu]
      exact F.has _ hm
    · exact key _ (F.has _ hp)
theorem findR_drop (rs : Rows) (n m : Int) : findR (dropR rs n) m = if m = n then none else findR rs m := by
  by_cases h : m = n
  · rw [if_pos h, findR_none]
    intro p hp e
    have := (List.mem_filter.mp hp).2
    simp only [decide_eq_true_eq] at this
    exact this (e.trans h)
  · rw [if_neg h]
    unfold findR dropR
    rw [List.find?_filter]
    congr 2
    funext p
    by_cases c : p.1 = m
    · have : ¬ p.1 = n := fun z => h (c.symm.trans z)
      simp [c, h]
    · simp [c]
theorem Wf.drop {rs : Rows} (F : Wf rs) {n : Int} (hn : repliesR rs n = []) : Wf (dropR rs n) := by
  have sub : (dropR rs n).Sublist rs := List.filter_sublist
  refine ⟨F.nk.sublist (sub.map _), fun p hp => F.pos p (sub.mem hp), fun p hp => F.u0 p (sub.mem hp), fun p hp => F.ult p (sub.mem hp), fun p hp => ?_⟩
  rcases F.has p (sub.mem hp) with h | ⟨r, h⟩
  · exact .inl h
  · right
    have : ¬ p.2.under = n := fun z => by
      have q : p.1 ∈ repliesR rs n := mem_replies.mpr ⟨p.2, sub.mem hp, z⟩
      rw [hn] at q
      cases q
    rw [findR_drop, if_neg this]
    exact ⟨r, h⟩
end Vw
namespace Vw
open PySem PySem.Spec PyProof.Rows L2
local macro_rules | `(tactic| walk_at "rd") => `(tactic| simp only [tSeq, tNext, tIfS, tAsg, tRet, tRetN, tDrop, tVar, tC, tOp, tUn, tTest, tB, tAnd, tOr, tNot, tAndV, tOrV, tNotV, tIf, tChain, tCB, tCons, tNil, tCall, tMeth, tMake, tFld, sFld, tTup, tLst, tTupS, tLstS, tDNewKS, tDNewTS, tTold, tCmp, t2I, tIsN, tNotN, tPar, gName, gNil, gCons, gTup, gSub, rI0, rU, rEq, rNe, tDGet, tDIn, tDNotIn, sDPut, tDNewK, tDGet1, tDGet2, tDPop1, tDPop2, tBM, tBM0, tM0, tM1, tSl, tPart, tNoPart, tBreak, tCont, tThru, L2.start, List.map_cons, List.map_nil, List.length_cons, List.length_nil, List.cons_append, List.nil_append, List.append_nil, List.replicate_succ, List.replicate_zero, Nat.reduceAdd, Nat.reduceSub, Nat.zero_add, List.getElem?_cons_zero, List.getElem?_cons_succ, List.set_cons_zero, List.set_cons_succ, wipe, cxOf_K, tYes, List.cons.injEq, and_self, Option.some.injEq, V.int.injEq, V.bl.injEq, V.ref.injEq, V.str.injEq, exists_eq_left', exists_eq_left, exists_and_left, and_assoc, true_and, and_true, if_true, if_false, ite_true, ite_false, Bool.not_true, Bool.not_false, Bool.false_eq_true, reduceIte])
section
variable {P : Program} {w : World} {K : PySem.W.Frag} {mg : Str → Option Value} {base : Heap}
def spVotesOf (K : PySem.W.Frag) : Sp := fun vs H Q E => ∃ (L : Lay) (x : V) (d : PyData), vs = [.ref L.p, x] ∧ WoodAt K H L ∧ Dp K H x d ∧ (∀ e, sayingD L d = some e → ∀ p H', H p = none → Same H H' → H' p = some (.tup [.int e.row.ups, .int e.row.downs]) → Q (.ref p) H') ∧ (sayingD L d = none → Bad K E .no H)
abbrev N_Wood_votes_of : List Str := ["self", "number", "one"]
theorem sc_Wood_votes_of : FnScope N_Wood_votes_of ["self", "number"] (defScope s_Wood_votes_of) := ⟨rfl, rfl, rfl, by decide +kernel, rfl, by decide +kernel, by decide +kernel⟩
theorem be_Wood_votes_of : BindEq "votes_of" "Wood.votes_of" s_Wood_votes_of ["self", "number"] := fun _ _ _ _ _ _ us hl => match us, hl with | [_, _], _ => rfl
theorem D_Wood_votes_of (T : Txt K mg base) : Def P w K mg base 3 (He.ma K (He.ga K "Wood") "votes_of") ["self", "number"] (spVotesOf K) := by
  refine mk_def T.f_Wood_votes_of sc_Wood_votes_of be_Wood_votes_of (fun vs H Q E h => ?_) (fun cdv A outer s H vs Q E hr h => ?_)
  · obtain ⟨L, x, d, rfl, _⟩ := h
    rfl
  · obtain ⟨L, x, d, rfl, W, hx, k1, k0⟩ := h
    refine ⟨_, (pss_cons (ps_set (i := 2) sc_Wood_votes_of.nd rfl (Or.inl rfl) (pe_md (pv 0) T.c_Wood.c T.m_Wood_saying (D_Wood_saying T) (by exact hr.mono (by first | decide | omega)) passE (pa_cons (pv 1) pa_nil)))
      (pss_one (ps_ret (pe_tup (pa_cons (pe_md0 (pv 2) T.c_Saying.c T.m_Saying_ups (D_Saying_ups T) (by exact hr.mono (by first | decide | omega)) passE) (pa_cons (pe_md0 (pv 2) T.c_Saying.c T.m_Saying_downs (D_Saying_downs T) (by exact hr.mono (by first | decide | omega)) passE) pa_nil)))))), ?_⟩
    walk_at "rd"
    refine ⟨_, _, W.top, fw_no _ _ _ (by decide) (by decide) (by decide), L, x, d, rfl, W, hx, fun e he => ?_, k0⟩
    have S := W.say e (sayingD_mem he)
    refine ⟨_, rfl, _, _, S.o, fs_ups _ _, _, _, _, _, rfl, S, fun H1 s1 => ?_⟩
    have S1 := S.same s1
    refine ⟨_, rfl, _, _, S1.o, fs_downs _ _, _, _, _, _, rfl, S1, fun H2 s2 => ⟨by show 2 ≤ sizeLine; decide, fun p hp => ?_⟩⟩
    exact k1 e he p _ ((s1.trans s2).free hp) ((s1.trans s2).trans (Same.new hp)) upd_same
/-! ### Wood.below, many -/
theorem perm_flatMap {α β : Type} {f g : α → List β} : ∀ {l : List α}, (∀ a ∈ l, (f a).Perm (g a)) → (l.flatMap f).Perm (l.flatMap g)
  | [], _ => List.Perm.refl _
  | a :: r, h => by
    rw [List.flatMap_cons, List.flatMap_cons]
    exact (h a List.mem_cons_self).append (perm_flatMap fun b hb => h b (List.mem_cons_of_mem _ hb))
theorem below_perm {rs : Rows} (F : Wf rs) (n : Int) : ((sortI (repliesR rs n)).flatMap fun c => c :: sortI (beneathR rs c)).Perm (beneathR rs n) :=
  ((sortI_perm _).flatMap_right _).trans ((perm_flatMap fun c _ => (sortI_perm (beneathR rs c)).cons c).trans (beneath_step F n))
theorem below_len {rs : Rows} (F : Wf rs) (n : Int) (i : Nat) : (((sortI (repliesR rs n)).take i).flatMap fun c => c :: sortI (beneathR rs c)).length ≤ rs.length := by
  have h1 := (below_perm F n).length_eq
  have h2 : (beneathR rs n).length ≤ rs.length := by
    unfold beneathR
    exact Nat.le_trans (List.length_filter_le _ _) (by rw [List.length_map]; omega)
  have h3 : ((sortI (repliesR rs n)).flatMap fun c => c :: sortI (beneathR rs c)).length = (((sortI (repliesR rs n)).take i).flatMap fun c => c :: sortI (beneathR rs c)).length + (((sortI (repliesR rs n)).drop i).flatMap fun c => c :: sortI (beneathR rs c)).length := by
    rw [← List.length_append, ← List.flatMap_append, List.take_append_drop]
  omega
/-- how many under one are not struck -/
def manyR (rs : Rows) (n : Int) : Nat := ((beneathR rs n).filter fun m => ((findR rs m).map fun r => !r.struck).getD false).length
def isZero : PyData → Bool
  | .int n => decide (n = 0)
  | _ => false
theorem underOk_iff (L : Lay) {d : PyData} (z : isZero d = false) : underOk L.wd d = true ↔ ∃ e, sayingD L d = some e := by
  cases d with
  | int n =>
    have hn : ¬ n = 0 := by simpa [isZero] using z
    simp only [underOk, sayingD, Bool.or_eq_true, Bool.and_eq_true, decide_eq_true_eq, hn, false_or]
    show (1 ≤ n ∧ n ≤ L.came) ∧ (findR L.rows n).isSome = true ↔ _
    rw [L.find]
    constructor
    · rintro ⟨h1, h2⟩
      rw [if_pos h1]
      cases f : findE L.ents n with
      | none => rw [f] at h2; cases h2
      | some e => exact ⟨e, rfl⟩
    · rintro ⟨e, h⟩
      by_cases c : 1 ≤ n ∧ n ≤ L.came
      · rw [if_pos c] at h
        exact ⟨c, by rw [h]; rfl⟩
      · rw [if_neg c] at h
        cases h
  | _ => simp [underOk, sayingD]
def spBelow (K : PySem.W.Frag) (k : Nat) : Sp := fun vs H Q E => ∃ (L : Lay) (x : V) (d : PyData), vs = [.ref L.p, x] ∧ WoodAt K H L ∧ Good L.wd ∧ Dp K H x d ∧ SeqAt.shaped d = true ∧ (∀ n, d = .int n → 8 ≤ (aboveR L.rows n).length + k) ∧
  (underOk L.wd d = false → Bad K E .no H) ∧ (∀ n, d = .int n → underOk L.wd d = true → ∀ p H', H p = none → Same H H' → H' p = some (.lst ((sortI (beneathR L.rows n)).map V.int)) → Q (.ref p) H')
abbrev N_Wood_below : List Str := ["self", "number", "found", "one"]
theorem sc_Wood_below : FnScope N_Wood_below ["self", "number"] (defScope s_Wood_below) := ⟨rfl, rfl, rfl, by decide +kernel, rfl, by decide +kernel, by decide +kernel⟩
theorem be_Wood_below : BindEq "below" "Wood.below" s_Wood_below ["self", "number"] := fun _ _ _ _ _ _ us hl => match us, hl with | [_, _], _ => rfl
theorem D_below_none (T : Txt K mg base) : Def P w K mg base 1 (He.ma K (He.ga K "Wood") "below") ["self", "number"] (fun _ _ _ _ => False) :=
  mk_def T.f_Wood_below sc_Wood_below be_Wood_below (fun _ _ _ _ h => h.elim) (fun _ _ _ _ _ _ _ _ _ h => h.elim)
theorem below_body (T : Txt K mg base) (k j : Nat) (sp : Sp) (D_Wood_below : Txt K mg base → Def P w K mg base (j + 3) (He.ma K (He.ga K "Wood") "below") ["self", "number"] sp)
    (hsp : ∀ (L : Lay) (c : Int) (H : Hp) (Q : VK) (E : XK), WoodAt K H L → Good L.wd → (∃ r, findR L.rows c = some r) → 9 ≤ (aboveR L.rows c).length + k → (aboveR L.rows c).length ≤ 8 → k ≠ 0 ∨ (aboveR L.rows c).length ≠ 8 → (∀ p H', H p = none → Same H H' → H' p = some (.lst ((sortI (beneathR L.rows c)).map V.int)) → Q (.ref p) H') → sp [.ref L.p, .int c] H Q E) :
    Def P w K mg base (j + 4) (He.ma K (He.ga K "Wood") "below") ["self", "number"] (spBelow K k) := by
  refine mk_def T.f_Wood_below sc_Wood_below be_Wood_below (fun vs H Q E h => ?_) (fun cdv A outer s H vs Q E hr h => ?_)
  · obtain ⟨L, x, d, rfl, _⟩ := h
    rfl
  · obtain ⟨L, x, d, rfl, W, G, hx, hsh, hk, k0, k1⟩ := h
    refine ⟨_, (C8.pss_cut (ps_if (PW.pt (pw_or (pt_ned (pv 1) pe_int (by exact hr.units)) (pw_or1 (pt_val (pe_callB call_isi (by rfl) T.b_isinstance (by decide +kernel) (pa_cons (pv 1) (pa_cons (pe_bltn (v := .ty "bool") (by rfl) T.b_bool (by decide +kernel) rfl) pa_nil))))))) (pss_one (ps_expr (pe_md (pv 0) T.c_Wood.c T.m_Wood_saying (D_Wood_saying T) (by exact hr.mono (by first | decide | omega)) passE (pa_cons (pv 1) pa_nil)))) pss_nil)
      (pss_cons (ps_set (i := 2) sc_Wood_below.nd rfl (Or.inl rfl) (pe_lst pa_nil))
      (pss_cons (ps_for ownE rfl (pi_list (pe_md (pv 0) T.c_Wood.c T.m_Wood_replies (D_Wood_replies T) (by exact hr.mono (by first | decide | omega)) passE (pa_cons (pv 1) pa_nil))) (pg_name (i := 3) sc_Wood_below.nd rfl (Or.inl rfl))
      (pss_one (ps_set (i := 2) sc_Wood_below.nd rfl (Or.inl rfl) (pe_op op_cat (pe_op op_cat (pv 2) (pe_lst (pa_cons (pv 3) pa_nil))) (pe_md (pv 0) T.c_Wood.c T.m_Wood_below (D_Wood_below T) (by exact hr.mono (by first | decide | omega)) passE (pa_cons (pv 3) pa_nil))))))
      (pss_one (ps_ret (pe_callB cr_sorted (by rfl) T.b_sorted (by decide +kernel) (pa_cons (pv 2) pa_nil))))))), ?_⟩
    refine ⟨fun σ' H' => H' = H ∧ σ' = [some (.ref L.p), some x, none, none] ∧ underOk L.wd d = true, ?_, ?_⟩
    · walk_at "rd"
      have say : ∀ {Q' : VK}, (underOk L.wd d = true → Q' .non H) → isZero d = false → (∃ dx fs, H L.p = some (.ins (He.ga K "Wood") dx fs) ∧ fs.lookup (Str.ofString "saying") = none ∧ spSaying K [.ref L.p, x] H (fun _ H1 => Q' .non H1) E) := fun {Q'} q z => by
        refine ⟨_, _, W.top, fw_no _ _ _ (by decide) (by decide) (by decide), L, x, d, rfl, W, hx, fun e he => q ?_, fun h => k0 ?_⟩
        · exact (underOk_iff L z).mpr ⟨e, he⟩
        · cases c : underOk L.wd d with
          | false => rfl
          | true =>
            obtain ⟨e, he⟩ := (underOk_iff L z).mp c
            rw [he] at h
            cases h
      refine use_neD hx (.int 0) hsh rfl ⟨_, rfl, ?_⟩
      cases e0 : PyData.eqv d (.int 0) with
      | false =>
        refine iteT (say (Q' := fun _ H1 => H1 = H ∧ underOk L.wd d = true) (fun h => ⟨rfl, h⟩) ?_)
        cases d with
        | int n => 
          have : ¬ n = 0 := by rw [eqv_int] at e0; exact of_decide_eq_false e0
          simp [isZero, this]
        | _ => rfl
      | true =>
        refine iteF (use_isi hx (kit_bool _) ⟨_, rfl, ?_⟩)
        cases hx with
        | bl b => exact iteT (say (Q' := fun _ H1 => H1 = H ∧ underOk L.wd (.bool b) = true) (fun h => ⟨rfl, h⟩) rfl)
        | int n =>
          have : n = 0 := by rw [eqv_int] at e0; exact of_decide_eq_true e0
          subst this
          exact iteF ⟨rfl, rfl⟩
        | _ => cases e0
    · rintro σ' H' ⟨rfl, rfl, hu⟩
      obtain ⟨n, rfl⟩ : ∃ n, d = .int n := by
        cases d with
        | int n => exact ⟨n, rfl⟩
        | _ => cases hu
      cases hx
      have k2 := k1 n rfl hu
      have hk := hk n rfl
      walk_at "rd"
      refine ⟨Nat.zero_le _, fun q hq => ?_⟩
      have F : Wf L.rows := G.wf
      have hnn : n = 0 ∨ ∃ r, findR L.rows n = some r := by
        simp only [underOk, Bool.or_eq_true, Bool.and_eq_true, decide_eq_true_eq] at hu
        rcases hu with h | h
        · exact .inl h
        · exact .inr (Option.isSome_iff_exists.mp h.2)
      have hd8 := G.dp0 hnn
      refine forL (l := sortI (repliesR L.rows n)) V.int (fun R r => ?_)
        (fun p i σ' H1 => Same H' H1 ∧ SqL K H1 p ((sortI (repliesR L.rows n)).map V.int) ∧ ∃ (f : Addr) (v : Option V), σ' = [some (.ref L.p), some (.int n), some (.ref f), v] ∧ H' f = none ∧ H1 f = some (.lst ((((sortI (repliesR L.rows n)).take i).flatMap fun c => c :: sortI (beneathR L.rows c)).map V.int)))
        (fun p H1 s1 hp => ⟨(Same.new hq).trans s1, hp, q, none, rfl, hq, s1 _ _ upd_same⟩) (fun p i σ' H1 _ h => h.2.1) ?_ ?_
      · walk_at "rd"
        have W1 := W.same (Same.new (o := .lst []) hq)
        exact ⟨_, _, W1.top, fw_no _ _ _ (by decide) (by decide) (by decide), L, n, rfl, W1, by have := G.len; simp [Lay.wd, Lay.rows] at this; omega, fun p H1 hp s1 e => r p H1 s1 (SqL.of e)⟩
      · rintro p i c σ' H1 hc ⟨s1, hp, f, v, rfl, hf, hl⟩
        walk_at "rd"
        have hcm : c ∈ repliesR L.rows n := (sortI_perm _).mem_iff.mp (List.mem_of_getElem? hc)
        obtain ⟨rc, hrc, _⟩ := mem_replies.mp hcm
        have fc := findR_of F.nk hrc
        have abc := reply_above F hcm
        have lenc : (aboveR L.rows c).length = (aboveR L.rows n).length + 1 := by rw [abc]; rfl
        have l1 := below_len F n i
        have l2 := below_len F n (i + 1)
        have e2 : ((sortI (repliesR L.rows n)).take (i + 1)).flatMap (fun c => c :: sortI (beneathR L.rows c)) = ((sortI (repliesR L.rows n)).take i).flatMap (fun c => c :: sortI (beneathR L.rows c)) ++ [c] ++ sortI (beneathR L.rows c) := by
          rw [List.take_add_one, hc, List.flatMap_append]
          simp
        have ln := G.len
        have ln : L.rows.length ≤ 60 := ln
        have d8 : (aboveR L.rows c).length ≤ 8 := G.dp _ hrc
        refine ⟨by decide, fun a ha => ⟨f, a, _, _, rfl, rfl, (Same.new ha) _ _ hl, upd_same, ?_, fun b hb => ?_⟩⟩
        · rw [sizeLine_eq, List.length_map]
          show _ + 1 ≤ _
          omega
        · have s3 := (Same.new (o := .lst [V.int c]) ha).trans (Same.new (o := .lst ((((sortI (repliesR L.rows n)).take i).flatMap fun c => c :: sortI (beneathR L.rows c)).map V.int ++ [V.int c])) hb)
          have W3 := W.same (s1.trans s3)
          refine ⟨_, _, W3.top, fw_no _ _ _ (by decide) (by decide) (by decide), hsp L c _ _ _ W3 G ⟨rc, fc⟩ (by omega) d8 (by omega) (fun q H4 hq s4 e4 => ?_)⟩
          refine ⟨b, q, _, _, rfl, rfl, s4 _ _ upd_same, e4, ?_, fun r hr => ?_⟩
          · rw [e2] at l2
            simp only [List.length_append, List.length_map, List.length_singleton] at l2 ⊢
            rw [sizeLine_eq]
            omega
          · have s5 := (s3.trans s4).trans (Same.new (o := .lst ((((sortI (repliesR L.rows n)).take i).flatMap fun c => c :: sortI (beneathR L.rows c)).map V.int ++ [V.int c] ++ (sortI (beneathR L.rows c)).map V.int)) hr)
            refine ⟨s1.trans s5, s5.seq hp, r, rfl, s1.free ((s3.trans s4).free hr), ?_⟩
            rw [upd_same, e2]
            simp
      · rintro p σ' H1 ⟨s1, hp, f, v, rfl, hf, hl⟩
        walk_at "rd"
        rw [List.take_of_length_le (Nat.le_refl _)] at hl
        have ln := G.len
        have ln : L.rows.length ≤ 60 := ln
        have pm := below_perm F n
        have hlen := pm.length_eq
        have hle : (beneathR L.rows n).length ≤ L.rows.length := by
          unfold beneathR
          exact Nat.le_trans (List.length_filter_le _ _) (by rw [List.length_map]; omega)
        refine ⟨f, _, rfl, SqL.of hl, by omega, fun ns' q hpm hs hq => ?_⟩
        rw [sortI_eq (hpm.trans pm) hs]
        exact k2 q _ (s1.free hq) (s1.trans (Same.new hq)) upd_same
theorem D_Wood_below_at (T : Txt K mg base) : ∀ k : Nat, Def P w K mg base (k + 4) (He.ma K (He.ga K "Wood") "below") ["self", "number"] (spBelow K k)
  | 0 => below_body T 0 0 (fun _ _ _ _ => False) (fun T => (D_below_none T).mono (by omega)) fun L c H Q E W G hc h9 h8 hne _ => by omega
  | k + 1 => below_body T (k + 1) (k + 1) (spBelow K k) (fun T => D_Wood_below_at T k) fun L c H Q E W G hc h9 h8 hne q => by
    refine ⟨L, .int c, .int c, rfl, W, G, .int c, rfl, fun n e => ?_, fun h => ?_, fun n e _ p H' hp s1 hl => ?_⟩
    · cases e
      omega
    · obtain ⟨r, hr⟩ := hc
      have h1 := (G.wf.up hr).2.1
      have h2 := G.le _ (findR_mem hr)
      have h3 : (findR L.wd.rows c).isSome = true := by show (findR L.rows c).isSome = true; rw [hr]; rfl
      have h2' : c ≤ L.wd.came := h2
      have h1' : 1 ≤ c := by omega
      simp [underOk, h3, h1', h2'] at h
    · cases e
      exact q p H' hp s1 hl
theorem D_Wood_below (T : Txt K mg base) : Def P w K mg base 12 (He.ma K (He.ga K "Wood") "below") ["self", "number"] (spBelow K 8) := D_Wood_below_at T 8
def spMany (K : PySem.W.Frag) : Sp := fun vs H Q E => ∃ (L : Lay) (x : V) (d : PyData), vs = [.ref L.p, x] ∧ WoodAt K H L ∧ Good L.wd ∧ Dp K H x d ∧ SeqAt.shaped d = true ∧
  (underOk L.wd d = false → Bad K E .no H) ∧ (∀ n, d = .int n → underOk L.wd d = true → ∀ H', Same H H' → Q (.int (manyR L.rows n : Nat)) H')
abbrev N_Wood_many : List Str := ["self", "number", "one"]
theorem sc_Wood_many : FnScope N_Wood_many ["self", "number"] (defScope s_Wood_many) := ⟨rfl, rfl, rfl, by decide +kernel, rfl, by decide +kernel, by decide +kernel⟩
theorem be_Wood_many : BindEq "many" "Wood.many" s_Wood_many ["self", "number"] := fun _ _ _ _ _ _ us hl => match us, hl with | [_, _], _ => rfl
theorem D_Wood_many (T : Txt K mg base) : Def P w K mg base 13 (He.ma K (He.ga K "Wood") "many") ["self", "number"] (spMany K) := by
  refine mk_def T.f_Wood_many sc_Wood_many be_Wood_many (fun vs H Q E h => ?_) (fun cdv A outer s H vs Q E hr h => ?_)
  · obtain ⟨L, x, d, rfl, _⟩ := h
    rfl
  · obtain ⟨L, x, d, rfl, W, G, hx, hsh, k0, k1⟩ := h
    refine ⟨_, (pss_one (ps_ret (pe_callB call_len_seq (by rfl) T.b_len (by decide +kernel) (pa_cons (pe_lc (own := [("one", 2)]) (g := gName 2) rfl sc_Wood_many.nd (pi_list (pe_md (pv 0) T.c_Wood.c T.m_Wood_below (D_Wood_below T) (by exact hr.mono (by first | decide | omega)) passE (pa_cons (pv 1) pa_nil))) (blkOk_by (N := N_Wood_many) (sc := defScope s_Wood_many) (by decide +kernel)) (fun _ _ _ _ _ => by exact (pg_name (i := 2) sc_Wood_many.nd rfl (Or.inl rfl))) (fun _ _ _ _ _ => by exact (pts_one (pt_not (pt_val (pe_fldK K (pe_dg (pe_fldK K (pv 0)) (pv 2) (by exact hu_of hr))))))) (fun _ _ _ _ _ => by exact (pv 2))) pa_nil)))), ?_⟩
    walk_at "rd"
    cases hu : underOk L.wd d with
    | false =>
      refine ⟨_, rfl, L.p, _, _, rfl, W.top, fw_no _ _ _ (by decide) (by decide) (by decide), _, rfl, L, x, d, rfl, W, G, hx, hsh, fun n e => by omega, k0, fun n e h => ?_⟩
      rw [hu] at h
      cases h
    | true =>
      obtain ⟨n, rfl⟩ : ∃ n, d = .int n := by
        cases d with
        | int n => exact ⟨n, rfl⟩
        | _ => cases hu
      cases hx
      have ln : L.rows.length ≤ 60 := G.len
      have hle : (beneathR L.rows n).length ≤ L.rows.length := by
        unfold beneathR
        exact Nat.le_trans (List.length_filter_le _ _) (by rw [List.length_map]; omega)
      refine lcL (l := sortI (beneathR L.rows n)) V.int (fun m => if (((findR L.rows m).map fun r => !r.struck).getD false) = true then some (.int m) else none) (fun R r => ?_) (by rw [sortI_length, sizeLine_eq]; omega) (fun m H' hm s1 N1 N0 q1 q0 => ?_) (fun D H' hD s1 e => ?_)
      · walk_at "rd"
        refine ⟨_, _, W.top, fw_no _ _ _ (by decide) (by decide) (by decide), L, .int n, .int n, rfl, W, G, .int n, hsh, fun n e => by omega, k0, fun m e _ p H' hp s1 hl => ?_⟩
        cases e
        exact r p H' s1 (SqL.of hl)
      · have W1 := W.same s1
        obtain ⟨⟨r, hr⟩, _⟩ := mem_beneath.mp ((sortI_perm _).mem_iff.mp hm)
        obtain ⟨e, he, eq⟩ := List.mem_map.mp hr
        cases eq
        have fe := findE_of W.nk he
        have S := W1.say e he
        have eu : findR L.rows e.n = some e.row := by rw [L.find, fe]; rfl
        walk_at "rd"
        refine W1.fsay T (W1.at fe ⟨_, rfl, S.fstruck T ⟨_, rfl, ?_⟩⟩)
        cases c : e.row.struck with
        | false => exact iteT (q1 _ _ (Same.refl _) (if_pos (by rw [eu]; simp [c])))
        | true => exact iteF (q0 _ (Same.refl _) (if_neg (by rw [eu]; simp [c])))
      · refine ⟨_, rfl, _, .inl (SqL.of e), ?_⟩
        rw [filterMap_if, List.length_map]
        have : ((sortI (beneathR L.rows n)).filter fun p => decide ((((findR L.rows p).map fun r => !r.struck).getD false) = true)).length = manyR L.rows n := by
          unfold manyR
          refine ((sortI_perm _).filter _).length_eq.trans ?_
          simp
        rw [this]
        exact k1 n rfl hu H' s1
def spStanding (K : PySem.W.Frag) : Sp := fun vs H Q E => ∃ (L : Lay) (x : V) (d : PyData), vs = [.ref L.p, x] ∧ WoodAt K H L ∧ Dp K H x d ∧ Short d ∧
  (nameOk d = false → ∀ H', Same H H' → Bad K E .name H') ∧ (∀ z, d = .str z → nameOk d = true → ∀ H', Same H H' → Q (.int (standingM L.wd z)) H')
abbrev N_Wood_standing : List Str := ["self", "by", "some", "number", "one"]
theorem sc_Wood_standing : FnScope N_Wood_standing ["self", "by"] (defScope s_Wood_standing) := ⟨rfl, rfl, rfl, by decide +kernel, rfl, by decide +kernel, by decide +kernel⟩
theorem be_Wood_standing : BindEq "standing" "Wood.standing" s_Wood_standing ["self", "by"] := fun _ _ _ _ _ _ us hl => match us, hl with | [_, _], _ => rfl
theorem D_Wood_standing (T : Txt K mg base) : Def P w K mg base 3 (He.ma K (He.ga K "Wood") "standing") ["self", "by"] (spStanding K) := by
  refine mk_def T.f_Wood_standing sc_Wood_standing be_Wood_standing (fun vs H Q E h => ?_) (fun cdv A outer s H vs Q E hr h => ?_)
  · obtain ⟨L, x, d, rfl, _⟩ := h
    rfl
  · obtain ⟨L, x, d, rfl, W, hx, hz, k0, k1⟩ := h
    refine ⟨_, (pss_cons (ps_expr (pe_cd (D_need_name T) (by exact hr.mono (by first | decide | omega)) T.g_need_name passE (pa_cons (pv 1) pa_nil)))
      (pss_cons (ps_lock (ps_setLc (i := 2) (own := [("number", 3)]) (g := gName 3) rfl sc_Wood_standing.nd rfl rfl (sw_true rfl rfl rfl (by decide +kernel)) (pi_keys (pe_fld (pv 0) (by rfl))) (blkOk_by (N := N_Wood_standing) (sc := defScope s_Wood_standing) (by decide +kernel)) (fun _ _ _ _ _ => by exact (pg_name (i := 3) sc_Wood_standing.nd rfl (Or.inl rfl))) (fun _ _ _ _ _ => pts_nil) (fun _ _ _ _ _ => by exact (pe_dg (pe_fldK K (pv 0)) (pv 3) (by exact hu_of hr)))))
      (pss_one (ps_ret (pe_callB (cr_sum rfl) (by rfl) T.b_sum (by decide +kernel) (pa_cons (pe_lc (own := [("one", 4)]) (g := gName 4) rfl sc_Wood_standing.nd (pi_list (pv 2)) (blkOk_by (N := N_Wood_standing) (sc := defScope s_Wood_standing) (by decide +kernel)) (fun _ _ _ _ _ => by exact (pg_name (i := 4) sc_Wood_standing.nd rfl (Or.inl rfl))) (fun _ _ _ _ _ => by exact (pts_one (PW.pt (pw_and (pt_cmpR op_eq (pe_fldK K (pv 4)) (pv 1) (nomark _)) (pw_and1 (pt_not (pt_val (pe_fldK K (pv 4))))))))) (fun _ _ _ _ _ => by exact (pe_md0 (pv 4) T.c_Saying.c T.m_Saying_points (D_Saying_points T) (by exact hr.mono (by first | decide | omega)) passF))) pa_nil)))))), ?_⟩
    walk_at "rd"
    refine ⟨x, d, rfl, hx, hz, fun hn H1 s1 => ?_, k0⟩
    have W1 := W.same s1
    cases hx with
    | str z =>
      refine lkA (lcK (l := L.ents) (d := L.d) entK (fun e => some (.ref e.a)) W1.dic (fun H' R hk q => ?_) (by have := W.sz; rw [sizeLine_eq]; omega) (fun e H' od he hk hv N1 N0 q1 q0 => ?_) (fun D H' hD s2 e => ?_))
      · walk_at "rd"
        exact fld (hk _ _ (ne_of W1.top W1.dic (by intro q; cases q)) W1.top) T.c_Wood.c T.n_Wood_sayings (fw_sayings _ _ _) q
      · walk_at "rd"
        refine fld (hk _ _ (ne_of W1.top W1.dic (by intro q; cases q)) W1.top) T.c_Wood.c T.n_Wood_sayings (fw_sayings _ _ _) ⟨_, rfl, _, .inl ⟨_, _, .inr ⟨_, hv⟩, rfl, ?_⟩, q1 _ _ (Same.refl _) rfl⟩
        show _ = valV _ (Sum.inl e.n)
        rw [valE, findE_of W.nk he]
        rfl
      · have W2 := W1.same s2
        have e : H' D = some (.lst (L.ents.map fun e => V.ref e.a)) := by rw [e, List.filterMap_eq_map']
        walk_at "rd"
        refine lcL (l := L.ents) (fun e => .ref e.a) (fun e => if e.row.who = z ∧ e.row.struck = false then some (.int e.row.points) else none) (fun R r => ⟨_, rfl, r D H' (Same.refl _) (SqL.of e)⟩) (by have := W.sz; rw [sizeLine_eq]; omega) (fun e H3 he s3 N1 N0 q1 q0 => ?_) (fun D2 H3 hD2 s3 e3 => ?_)
        · have S := W2.say e he
          have S := S.same s3
          walk_at "rd"
          refine S.fby T ⟨rfl, ?_⟩
          by_cases c : e.row.who = z
          · rw [decide_eq_true (show V.str e.row.who = V.str z by rw [c])]
            refine iteT (S.fstruck T ⟨_, rfl, ?_⟩)
            cases b : e.row.struck with
            | false =>
              refine iteT ⟨_, _, S.o, fs_points _ _, _, _, _, _, rfl, S, fun H4 s4 => q1 _ _ s4 (if_pos ⟨c, b⟩)⟩
            | true => exact iteF (q0 _ (Same.refl _) (if_neg (by rw [b]; simp)))
          · rw [decide_eq_false (show ¬ V.str e.row.who = V.str z from fun q => c (V.str.inj q))]
            exact iteF (q0 _ (Same.refl _) (if_neg fun h => c h.1))
        · refine ⟨_, _, rfl, SqL.of (xs := ((L.ents.filter fun e => decide (e.row.who = z ∧ e.row.struck = false)).map fun e => e.row.points).map V.int) ?_, ?_⟩
          · rw [e3, filterMap_if, List.map_map]
            rfl
          · have es : ((L.ents.filter fun e => decide (e.row.who = z ∧ e.row.struck = false)).map fun e => e.row.points).sum = standingM L.wd z := by
              unfold standingM Lay.wd Lay.rows
              rw [List.filter_map, List.map_map]
              congr 2
              apply List.filter_congr
              intro e _
              show decide (e.row.who = z ∧ e.row.struck = false) = (decide (e.row.who = z) && !e.row.struck)
              cases e.row.struck <;> simp
            rw [es]
            exact k1 z rfl hn H3 ((s1.trans s2).trans s3)
    | _ => cases hn
end
end Vw
namespace Vw
open PySem PySem.Spec PyProof.Rows L2
local macro_rules | `(tactic| walk_at "rd") => `(tactic| simp only [tSeq, tNext, tIfS, tAsg, tRet, tRetN, tDrop, tVar, tC, tOp, tUn, tTest, tB, tAnd, tOr, tNot, tAndV, tOrV, tNotV, tIf, tChain, tCB, tCons, tNil, tCall, tMeth, tMake, tFld, sFld, tTup, tLst, tTupS, tLstS, tDNewKS, tDNewTS, tTold, tCmp, t2I, tIsN, tNotN, tPar, gName, gNil, gCons, gTup, gSub, rI0, rU, rEq, rNe, tDGet, tDIn, tDNotIn, sDPut, tDNewK, tDGet1, tDGet2, tDPop1, tDPop2, tBM, tBM0, tM0, tM1, tSl, tPart, tNoPart, tBreak, tCont, tThru, L2.start, List.map_cons, List.map_nil, List.length_cons, List.length_nil, List.cons_append, List.nil_append, List.append_nil, List.replicate_succ, List.replicate_zero, Nat.reduceAdd, Nat.reduceSub, Nat.zero_add, List.getElem?_cons_zero, List.getElem?_cons_succ, List.set_cons_zero, List.set_cons_succ, wipe, cxOf_K, tYes, List.cons.injEq, and_self, Option.some.injEq, V.int.injEq, V.bl.injEq, V.ref.injEq, V.str.injEq, exists_eq_left', exists_eq_left, exists_and_left, and_assoc, true_and, and_true, if_true, if_false, ite_true, ite_false, Bool.not_true, Bool.not_false, Bool.false_eq_true, reduceIte])
/-! ### a wood that is changed: what it stands on, a step -/
def foot (L : Lay) : List Addr := L.p :: L.d :: (L.ents.map (·.a) ++ L.ents.map (·.v))
structure Step (H : Hp) (L : Lay) (H' : Hp) (L' : Lay) : Prop where
  p : L'.p = L.p
  keep : ∀ b o, b ∉ foot L → H b = some o → H' b = some o
  new : ∀ b ∈ foot L', b ∈ foot L ∨ H b = none
theorem Step.same {H H' : Hp} {L : Lay} (s : Same H H') : Step H L H' L := ⟨rfl, fun b o _ e => s b o e, fun b hb => .inl hb⟩
theorem Step.trans {H H1 H2 : Hp} {L L1 L2 : Lay} (a : Step H L H1 L1) (b : Step H1 L1 H2 L2) : Step H L H2 L2 := by
  refine ⟨b.p.trans a.p, fun c o hc e => b.keep c o (fun h => ?_) (a.keep c o hc e), fun c hc => ?_⟩
  · rcases a.new c h with z | z
    · exact hc z
    · rw [z] at e
      cases e
  · rcases b.new c hc with z | z
    · exact a.new c z
    · by_cases h : c ∈ foot L
      · exact .inl h
      · right
        cases q : H c with
        | none => rfl
        | some o =>
          rw [a.keep c o h q] at z
          cases z
theorem inj_nodup {α β : Type} {f : α → β} : ∀ {l : List α}, (l.map f).Nodup → ∀ {a b : α}, a ∈ l → b ∈ l → f a = f b → a = b
  | [], _, _, _, h, _, _ => by cases h
  | c :: r, h, a, b, ha, hb, e => by
    simp only [List.map_cons, List.nodup_cons] at h
    rcases List.mem_cons.mp ha with h1 | h1
    · rcases List.mem_cons.mp hb with h2 | h2
      · rw [h1, h2]
      · exact absurd (List.mem_map.mpr ⟨b, h2, by rw [← e, h1]⟩) h.1
    · rcases List.mem_cons.mp hb with h2 | h2
      · exact absurd (List.mem_map.mpr ⟨a, h1, by rw [e, h2]⟩) h.1
      · exact inj_nodup h.2 h1 h2 e
def setE (es : List Ent) (n : Int) (r : Row) : List Ent := es.map fun e => if e.n = n then { e with row := r } else e
theorem setE_map {β : Type} (f : Ent → β) (hf : ∀ e r, f { e with row := r } = f e) (es : List Ent) (n : Int) (r : Row) : (setE es n r).map f = es.map f := by
  unfold setE
  rw [List.map_map]
  apply List.map_congr_left
  intro e _
  show f (if e.n = n then _ else _) = f e
  split
  · exact hf e r
  · rfl
theorem setE_rows (es : List Ent) (n : Int) (r : Row) : (setE es n r).map (fun e => (e.n, e.row)) = setR (es.map fun e => (e.n, e.row)) n r := by
  unfold setE setR
  rw [List.map_map, List.map_map]
  apply List.map_congr_left
  intro e _
  show ((if e.n = n then { e with row := r } else e).n, (if e.n = n then { e with row := r } else e).row) = if e.n = n then (n, r) else (e.n, e.row)
  by_cases h : e.n = n <;> simp [h]
theorem mem_setE {es : List Ent} {n : Int} {r : Row} {e : Ent} (h : e ∈ setE es n r) : ∃ e0 ∈ es, e.a = e0.a ∧ e.x = e0.x ∧ e.v = e0.v ∧ e.n = e0.n ∧ ((e0.n = n ∧ e.row = r) ∨ (e0.n ≠ n ∧ e = e0)) := by
  obtain ⟨e0, h0, rfl⟩ := List.mem_map.mp h
  refine ⟨e0, h0, ?_⟩
  by_cases c : e0.n = n
  · simp [c]
  · simp [c]
/-- the row of one entry is another one: its object, its votes may be written -/
theorem WoodAt.set {K : PySem.W.Frag} {H H' : Hp} {L : Lay} (W : WoodAt K H L) {e : Ent} (he : e ∈ L.ents) {r : Row} (S : SayAt K H' e.a e.x e.v r) (k : ∀ b o, b ≠ e.a → b ≠ e.v → H b = some o → H' b = some o) : WoodAt K H' { L with ents := setE L.ents e.n r } := by
  have Se := W.say e he
  have n1 : L.p ≠ e.v := ne_of W.top Se.d (by intro q; cases q)
  have n2 : L.d ≠ e.a := ne_of W.dic Se.o (by intro q; cases q)
  refine ⟨k _ _ (W.pa e he).symm n1 W.top, ?_, fun e' h' => ?_, ?_, ?_, ?_, fun e' h' => ?_, fun e' h' => ?_, ?_⟩
  · show H' L.d = some (.dK ((setE L.ents e.n r).map entK))
    rw [setE_map entK (fun _ _ => rfl)]
    exact k _ _ n2 (W.dv e he).symm W.dic
  · obtain ⟨e0, h0, ha, hx, hv, hn, h⟩ := mem_setE h'
    rcases h with ⟨hn0, hr⟩ | ⟨hn0, rfl⟩
    · have : e0 = e := inj_nodup W.nk h0 he hn0
      subst this
      rw [ha, hx, hv, hr]
      exact S
    · have S0 := W.say e' h0
      have na : e'.a ≠ e.a := fun z => hn0 (congrArg Ent.n (inj_nodup W.nda h0 he z))
      have nv : e'.v ≠ e.v := fun z => hn0 (congrArg Ent.n (inj_nodup W.ndv h0 he z))
      exact ⟨k _ _ na (ne_of S0.o Se.d (by intro q; cases q)) S0.o, k _ _ (ne_of S0.d Se.o (by intro q; cases q)) nv S0.d, S0.nd, S0.sz⟩
  · show ((setE L.ents e.n r).map (·.n)).Nodup
    rw [setE_map _ (fun _ _ => rfl)]
    exact W.nk
  · show ((setE L.ents e.n r).map (·.a)).Nodup
    rw [setE_map _ (fun _ _ => rfl)]
    exact W.nda
  · show ((setE L.ents e.n r).map (·.v)).Nodup
    rw [setE_map _ (fun _ _ => rfl)]
    exact W.ndv
  · obtain ⟨e0, h0, ha, hx, hv, hn, _⟩ := mem_setE h'
    rw [hv]
    exact W.dv e0 h0
  · obtain ⟨e0, h0, ha, hx, hv, hn, _⟩ := mem_setE h'
    rw [ha]
    exact W.pa e0 h0
  · show (setE L.ents e.n r).length < 100000
    unfold setE
    rw [List.length_map]
    exact W.sz
theorem foot_set (L : Lay) (n : Int) (r : Row) : foot { L with ents := setE L.ents n r } = foot L := by
  unfold foot
  show L.p :: L.d :: ((setE L.ents n r).map (·.a) ++ (setE L.ents n r).map (·.v)) = _
  rw [setE_map _ (fun _ _ => rfl), setE_map _ (fun _ _ => rfl)]
theorem mem_foot_a {L : Lay} {e : Ent} (he : e ∈ L.ents) : e.a ∈ foot L := List.mem_cons_of_mem _ (List.mem_cons_of_mem _ (List.mem_append_left _ (List.mem_map.mpr ⟨e, he, rfl⟩)))
theorem mem_foot_v {L : Lay} {e : Ent} (he : e ∈ L.ents) : e.v ∈ foot L := List.mem_cons_of_mem _ (List.mem_cons_of_mem _ (List.mem_append_right _ (List.mem_map.mpr ⟨e, he, rfl⟩)))
theorem Step.set {H H' : Hp} {L : Lay} {e : Ent} (he : e ∈ L.ents) {r : Row} (k : ∀ b o, b ≠ e.a → b ≠ e.v → H b = some o → H' b = some o) : Step H L H' { L with ents := setE L.ents e.n r } :=
  ⟨rfl, fun b o hb q => k b o (fun z => hb (z ▸ mem_foot_a he)) (fun z => hb (z ▸ mem_foot_v he)) q, fun b hb => .inl (by rw [foot_set] at hb; exact hb)⟩
/-- one entry goes -/
theorem WoodAt.pop {K : PySem.W.Frag} {H : Hp} {L : Lay} (W : WoodAt K H L) (n : Int) : WoodAt K (upd H L.d (.dK (dropK (L.ents.map entK) (Sum.inl n)))) { L with ents := L.ents.filter fun e => decide (e.n ≠ n) } := by
  have sub : (L.ents.filter fun e => decide (e.n ≠ n)).Sublist L.ents := List.filter_sublist
  have npd : L.p ≠ L.d := ne_of W.top W.dic (by intro q; cases q)
  refine ⟨by show upd H L.d _ L.p = _; rw [upd_ne npd]; exact W.top, ?_, fun e he => ?_, W.nk.sublist (sub.map _), W.nda.sublist (sub.map _), W.ndv.sublist (sub.map _), fun e he => W.dv e (sub.mem he), fun e he => W.pa e (sub.mem he), Nat.lt_of_le_of_lt sub.length_le W.sz⟩
  · show upd H L.d _ L.d = some (.dK ((L.ents.filter fun e => decide (e.n ≠ n)).map entK))
    rw [upd_same]
    unfold dropK
    rw [List.filter_map]
    congr 3
    apply List.filter_congr
    intro e _
    show decide ((Sum.inl e.n : Key) ≠ Sum.inl n) = decide (e.n ≠ n)
    simp
  · have S := W.say e (sub.mem he)
    exact ⟨by rw [upd_ne (ne_of S.o W.dic (by intro q; cases q))]; exact S.o, by rw [upd_ne (W.dv e (sub.mem he))]; exact S.d, S.nd, S.sz⟩
theorem Step.pop {H : Hp} {L : Lay} (n : Int) (o : HO) : Step H L (upd H L.d o) { L with ents := L.ents.filter fun e => decide (e.n ≠ n) } := by
  refine ⟨rfl, fun b u hb e => ?_, fun b hb => .inl ?_⟩
  · rw [upd_ne (fun z => hb (by rw [z]; exact List.mem_cons_of_mem _ List.mem_cons_self))]
    exact e
  · have sub : (L.ents.filter fun e => decide (e.n ≠ n)).Sublist L.ents := List.filter_sublist
    have hb : b ∈ L.p :: L.d :: ((L.ents.filter fun e => decide (e.n ≠ n)).map (·.a) ++ (L.ents.filter fun e => decide (e.n ≠ n)).map (·.v)) := hb
    exact (List.Sublist.cons₂ _ (List.Sublist.cons₂ _ ((sub.map _).append (sub.map _)))).mem hb
theorem pop_rows (L : Lay) (n : Int) : ({ L with ents := L.ents.filter fun e => decide (e.n ≠ n) } : Lay).rows = dropR L.rows n := by
  unfold Lay.rows dropR
  rw [List.filter_map]
  rfl
theorem dropK_votes (vs : List (Str × Int)) (who : Str) : dropK (votesK vs) (Sum.inr who) = votesK (vs.filter fun p => decide (p.1 ≠ who)) := by
  unfold dropK votesK
  rw [List.filter_map]
  congr 1
  apply List.filter_congr
  intro p _
  show decide ((Sum.inr p.1 : Key) ≠ Sum.inr who) = decide (p.1 ≠ who)
  simp
theorem votes_none {vs : List (Str × Int)} {who : Str} (h : valV (votesK vs) (Sum.inr who) = none) : ∀ p ∈ vs, p.1 ≠ who := fun p hp e => by
  have q := valV_not h
  apply q
  unfold votesK
  rw [List.map_map]
  exact List.mem_map.mpr ⟨p, hp, by rw [← e]; rfl⟩
/-- votes.pop(who, None) -/
theorem pop_any {H : Hp} {v : Addr} {vs : List (Str × Int)} {who : Str} {G : Hp → Prop} (h : H v = some (.dK (votesK vs)))
    (g : ∀ H2, H2 v = some (.dK (votesK (vs.filter fun p => decide (p.1 ≠ who)))) → (∀ b o, b ≠ v → H b = some o → H2 b = some o) → G H2) :
    ∃ a, V.ref v = V.ref a ∧ IsD H a ∧ ∃ kvs, H a = some (.dK kvs) ∧ ∃ k, V.str who = kV k ∧ (∀ u, valV kvs k = some u → G (upd H a (.dK (dropK kvs k)))) ∧ (valV kvs k = none → G H) := by
  refine ⟨v, rfl, .inl ⟨_, .inl h⟩, _, h, Sum.inr who, rfl, fun u _ => g _ ?_ fun b o hb e => by rw [upd_ne hb]; exact e, fun hn => g H ?_ fun _ _ _ e => e⟩
  · rw [upd_same, dropK_votes]
  · have z := votes_none hn
    have : vs.filter (fun p => decide (p.1 ≠ who)) = vs := List.filter_eq_self.mpr fun p hp => by simpa using z p hp
    rw [this]
    exact h
section
variable {P : Program} {w : World} {K : PySem.W.Frag} {mg : Str → Option Value} {base : Heap}
/-- what a deed that changes the wood leaves -/
def Told (K : PySem.W.Frag) (H : Hp) (L : Lay) (Q : VK) (E : XK) (v : V) (r : Except Er Wd) : Prop :=
  (∀ M, r = .ok M → ∀ H' L', WoodAt K H' L' → L'.wd = M → Step H L H' L' → Q v H') ∧ (∀ e, r = .error e → ∀ H', Same H H' → Bad K E e H')
def spChange (K : PySem.W.Frag) : Sp := fun vs H Q E => ∃ (L : Lay) (x y z : V) (d b t : PyData), vs = [.ref L.p, x, y, z] ∧ WoodAt K H L ∧ Dp K H x d ∧ Dp K H y b ∧ Dp K H z t ∧ Short b ∧ Short t ∧ Told K H L Q E .non (changeM L.wd d b t)
abbrev N_Wood_change : List Str := ["self", "number", "by", "text", "one"]
theorem sc_Wood_change : FnScope N_Wood_change ["self", "number", "by", "text"] (defScope s_Wood_change) := ⟨rfl, rfl, rfl, by decide +kernel, rfl, by decide +kernel, by decide +kernel⟩
theorem be_Wood_change : BindEq "change" "Wood.change" s_Wood_change ["self", "number", "by", "text"] := fun _ _ _ _ _ _ us hl => match us, hl with | [_, _, _, _], _ => rfl
theorem D_Wood_change (T : Txt K mg base) : Def P w K mg base 4 (He.ma K (He.ga K "Wood") "change") ["self", "number", "by", "text"] (spChange K) := by
  refine mk_def T.f_Wood_change sc_Wood_change be_Wood_change (fun vs H Q E h => ?_) (fun cdv A outer s H vs Q E hr h => ?_)
  · obtain ⟨L, x, y, z, d, b, t, rfl, _⟩ := h
    rfl
  · obtain ⟨L, x, y, z, d, b, t, rfl, W, hx, hy, hz, sb, st, k1, k0⟩ := h
    refine ⟨_, (pss_cons (ps_set (i := 4) sc_Wood_change.nd rfl (Or.inl rfl) (pe_md (pv 0) T.c_Wood.c T.m_Wood_own (D_Wood_own T) (by exact hr.mono (by first | decide | omega)) passE (pa_cons (pv 1) (pa_cons (pv 2) pa_nil))))
      (pss_cons (ps_expr (pe_cd (D_need_text T) (by exact hr.mono (by first | decide | omega)) T.g_need_text passE (pa_cons (pv 3) pa_nil)))
      (pss_one (ps_fld (pv 4) (pv 3) (by rfl))))), ?_⟩
    walk_at "rd"
    refine ⟨_, _, W.top, fw_no _ _ _ (by decide) (by decide) (by decide), L, x, y, d, b, rfl, W, hx, hy, sb, fun r hr H1 s1 => k0 r ?_ H1 s1, fun n r hr e he er H1 s1 => ?_⟩
    · unfold changeM
      rw [hr]
    · have W1 := W.same s1
      refine ⟨z, t, rfl, dp_same s1 hz, st, fun ht H2 s2 => ?_, fun ht H2 s2 => k0 .text ?_ H2 (s1.trans s2)⟩
      · have W2 := W1.same s2
        have S := W2.say e (findE_mem he).1
        cases hz with
        | str u =>
          have en := (findE_mem he).2
          have nva : e.v ≠ e.a := ne_of S.d S.o (by intro q; cases q)
          refine ⟨_, rfl, _, _, _, S.o, T.c_Saying.c, T.n_Saying_text, by rw [fs_len]; decide, ?_⟩
          rw [fp_text]
          have kp : ∀ b o, b ≠ e.a → b ≠ e.v → H2 b = some o → upd H2 e.a (.ins (cS K) e.x (sayFs { e.row with text := u } e.v)) b = some o := fun b o h1 _ q => by rw [upd_ne h1]; exact q
          refine k1 { L.wd with rows := setR L.rows n { r with text := u } } ?_ _ _ (W2.set (findE_mem he).1 (r := { e.row with text := u }) ⟨upd_same, by rw [upd_ne nva]; exact S.d, S.nd, S.sz⟩ kp) ?_ ((Step.same (s1.trans s2)).trans (Step.set (findE_mem he).1 kp))
          · unfold changeM
            rw [hr]
            exact if_pos ht
          · rw [en, ← er]
            unfold Lay.wd Lay.rows
            rw [setE_rows]
        | _ => cases ht
      · unfold changeM
        rw [hr]
        cases t with
        | str u => exact if_neg (by simpa [textOk] using ht)
        | _ => rfl
def spVote (K : PySem.W.Frag) : Sp := fun vs H Q E => ∃ (L : Lay) (x y z : V) (d b t : PyData), vs = [.ref L.p, x, y, z] ∧ WoodAt K H L ∧ Dp K H x d ∧ Dp K H y b ∧ Dp K H z t ∧ Short b ∧ (∀ e ∈ L.ents, e.row.votes.length < 99999) ∧
  (∀ p M, voteM L.wd d b t = .ok (p, M) → ∀ H' L', WoodAt K H' L' → L'.wd = M → Step H L H' L' → Q (.int p) H') ∧ (∀ e, voteM L.wd d b t = .error e → ∀ H', Same H H' → Bad K E e H')
abbrev N_Wood_vote : List Str := ["self", "number", "by", "way", "one"]
theorem sc_Wood_vote : FnScope N_Wood_vote ["self", "number", "by", "way"] (defScope s_Wood_vote) := ⟨rfl, rfl, rfl, by decide +kernel, rfl, by decide +kernel, by decide +kernel⟩
theorem be_Wood_vote : BindEq "vote" "Wood.vote" s_Wood_vote ["self", "number", "by", "way"] := fun _ _ _ _ _ _ us hl => match us, hl with | [_, _, _, _], _ => rfl
theorem D_Wood_vote (T : Txt K mg base) : Def P w K mg base 3 (He.ma K (He.ga K "Wood") "vote") ["self", "number", "by", "way"] (spVote K) := by
  refine mk_def T.f_Wood_vote sc_Wood_vote be_Wood_vote (fun vs H Q E h => ?_) (fun cdv A outer s H vs Q E hr h => ?_)
  · obtain ⟨L, x, y, z, d, b, t, rfl, _⟩ := h
    rfl
  · obtain ⟨L, x, y, z, d, b, t, rfl, W, hx, hy, hz, sb, hsz, k1, k0⟩ := h
    refine ⟨_, (pss_cons (ps_set (i := 4) sc_Wood_vote.nd rfl (Or.inl rfl) (pe_md (pv 0) T.c_Wood.c T.m_Wood_saying (D_Wood_saying T) (by exact hr.mono (by first | decide | omega)) passE (pa_cons (pv 1) pa_nil)))
      (pss_cons (ps_expr (pe_cd (D_need_name T) (by exact hr.mono (by first | decide | omega)) T.g_need_name passE (pa_cons (pv 2) pa_nil)))
      (pss_cons (ps_if (pt_not (pt_val (pe_cd (D_is_count T) (by exact hr.mono (by first | decide | omega)) T.g_is_count passE (pa_cons (pv 3) (pa_cons (pe_un un_neg pe_int) (pa_cons pe_int pa_nil)))))) (pss_one (ps_rs T.x_BadNumber)) pss_nil)
      (pss_cons (ps_if (PW.pt (pw_or (pt_cmpR op_eq (pe_fld (pv 4) (by rfl)) (pv 2) (nomark _)) (pw_or1 (pt_val (pe_fld (pv 4) (by rfl)))))) (pss_one (ps_rs T.x_NotYours)) pss_nil)
      (pss_cons (ps_expr (pe_dp2 (pe_fld (pv 4) (by rfl)) (pv 2) pe_non))
      (C8.pss_cut (ps_if (pt_cmpR op_ne (pv 3) pe_int (nomark _)) (pss_one (ps_dp (pe_fld (pv 4) (by rfl)) (pv 2) (pv 3) (by exact hu_of hr))) pss_nil)
      (pss_one (ps_ret (pe_md0 (pv 4) T.c_Saying.c T.m_Saying_points (D_Saying_points T) (by exact hr.mono (by first | decide | omega)) passE))))))))), ?_⟩
    walk_at "rd"
    refine ⟨_, _, W.top, fw_no _ _ _ (by decide) (by decide) (by decide), L, x, d, rfl, W, hx, fun e he => ?_, fun h => k0 .no ?_ H (Same.refl H)⟩
    · have em : sayingM L.wd d = some (e.n, e.row) := by rw [sayingME, he]; rfl
      have hm := sayingD_mem he
      refine ⟨y, b, rfl, hy, sb, fun hb H1 s1 => ?_, fun hb H1 s1 => k0 .name ?_ H1 s1⟩
      · have hb0 : ¬ nameOk b = false := by rw [hb]; decide
        have W1 := W.same s1
        have S := W1.say e hm
        refine ⟨z, t, _, _, rfl, dp_same s1 hz, _, rfl, ?_⟩
        cases hc : isCount t (-1) 1 with
        | false =>
          refine iteT (k0 .number ?_ H1 s1)
          unfold voteM
          rw [em]
          show (if nameOk b = false then _ else if isCount t (-1) 1 = false then _ else _) = _
          rw [if_neg hb0, if_pos hc]
        | true =>
          refine iteF ?_
          have hc0 : ¬ isCount t (-1) 1 = false := by rw [hc]; decide
          cases hz with
          | int way =>
            cases hy with
            | str who =>
              have ev : voteM L.wd d (.str who) (.int way) = if e.row.who = who ∨ e.row.struck = true then .error .yours else .ok (Row.points { e.row with votes := votesM e.row.votes who way }, { L.wd with rows := setR L.wd.rows e.n { e.row with votes := votesM e.row.votes who way } }) := by
                unfold voteM
                rw [em]
                show (if nameOk (.str who) = false then _ else if isCount (.int way) (-1) 1 = false then _ else _) = _
                rw [if_neg hb0, if_neg hc0]
              refine ⟨_, rfl, S.fby T ⟨rfl, ?_⟩⟩
              by_cases hw : e.row.who = who
              · rw [decide_eq_true (show V.str e.row.who = V.str who by rw [hw])]
                refine iteT (k0 .yours ?_ H1 s1)
                rw [ev, if_pos (.inl hw)]
              · rw [decide_eq_false (show ¬ V.str e.row.who = V.str who from fun q => hw (V.str.inj q))]
                refine iteF ⟨_, rfl, S.fstruck T ⟨_, rfl, ?_⟩⟩
                cases hst : e.row.struck with
                | true =>
                  refine iteT (k0 .yours ?_ H1 s1)
                  rw [ev, if_pos (.inr hst)]
                | false =>
                  refine iteF ⟨_, rfl, S.fvotes T (pop_any S.d fun H2 h2 q2 => ?_)⟩
                  have nva : e.a ≠ e.v := ne_of S.o S.d (by intro q; cases q)
                  have o2 := q2 _ _ nva S.o
                  have ndf : ((e.row.votes.filter fun p => decide (p.1 ≠ who)).map (·.1)).Nodup := S.nd.sublist (List.Sublist.map _ List.filter_sublist)
                  have szf : (e.row.votes.filter fun p => decide (p.1 ≠ who)).length ≤ e.row.votes.length := List.length_filter_le _ _
                  have sz := hsz e hm
                  have fin : ∀ H3, SayAt K H3 e.a e.x e.v { e.row with votes := votesM e.row.votes who way } → (∀ b o, b ≠ e.a → b ≠ e.v → H1 b = some o → H3 b = some o) → ∀ H4, Same H3 H4 → Q (.int (Row.points { e.row with votes := votesM e.row.votes who way })) H4 := fun H3 S3 k3 H4 s4 => by
                    refine k1 _ { L.wd with rows := setR L.rows e.n { e.row with votes := votesM e.row.votes who way } } ?_ H4 _ ((W1.set hm S3 k3).same s4) ?_ (((Step.same s1).trans (Step.set hm k3)).trans (Step.same s4))
                    · rw [ev, if_neg (by simp [hw, hst])]
                      rfl
                    · unfold Lay.wd Lay.rows
                      rw [setE_rows]
                  refine ⟨fun σ' H3 => σ' = [some (.ref L.p), some x, some (.str who), some (.int way), some (.ref e.a)] ∧ SayAt K H3 e.a e.x e.v { e.row with votes := votesM e.row.votes who way } ∧ (∀ b o, b ≠ e.a → b ≠ e.v → H1 b = some o → H3 b = some o), ?_, ?_⟩
                  · walk_at "rd"
                    refine ⟨rfl, ?_⟩
                    by_cases w0 : way = 0
                    · rw [decide_eq_true w0]
                      have ev0 : votesM e.row.votes who way = e.row.votes.filter fun p => decide (p.1 ≠ who) := if_pos w0
                      refine iteF ⟨⟨o2, by rw [h2]; show _ = some (HO.dK (votesK (votesM e.row.votes who way))); rw [ev0], by show ((votesM e.row.votes who way).map (·.1)).Nodup; rw [ev0]; exact ndf, by show (votesM e.row.votes who way).length < 100000; rw [ev0]; omega⟩, fun b o h1 hv q => q2 b o hv q⟩
                    · rw [decide_eq_false w0]
                      have ev0 : votesM e.row.votes who way = (e.row.votes.filter fun p => decide (p.1 ≠ who)) ++ [(who, way)] := if_neg w0
                      have hno : ∀ p ∈ e.row.votes.filter (fun p => decide (p.1 ≠ who)), p.1 ≠ who := fun p hp => by simpa using (List.mem_filter.mp hp).2
                      have vn : valV (votesK (e.row.votes.filter fun p => decide (p.1 ≠ who))) (Sum.inr who) = none := by
                        cases q : valV (votesK (e.row.votes.filter fun p => decide (p.1 ≠ who))) (Sum.inr who) with
                        | none => rfl
                        | some u =>
                          have m := valV_in q
                          unfold votesK at m
                          rw [List.map_map] at m
                          obtain ⟨p, hp, ep⟩ := List.mem_map.mp m
                          exact absurd (Sum.inr.inj ep) (hno p hp)
                      refine iteT (fld o2 T.c_Saying.c T.n_Saying_votes (fs_votes _ _) ⟨_, rfl, _, DPut.k (k := Sum.inr who) h2 (by unfold votesK; rw [List.length_map, sizeLine_eq]; omega), ⟨?_, ?_, ?_, ?_⟩, fun b o h1 hv q => ?_⟩)
                      · rw [upd_ne nva]
                        exact o2
                      · rw [upd_same, putK_new _ vn]
                        show some (HO.dK (votesK _ ++ [voteK (who, way)])) = some (HO.dK (votesK (votesM e.row.votes who way)))
                        rw [ev0]
                        simp [votesK]
                      · show ((votesM e.row.votes who way).map (·.1)).Nodup
                        rw [ev0, List.map_append]
                        refine nd_snoc ndf fun m => ?_
                        obtain ⟨p, hp, ep⟩ := List.mem_map.mp m
                        exact hno p hp ep
                      · show (votesM e.row.votes who way).length < 100000
                        rw [ev0, List.length_append, List.length_singleton]
                        omega
                      · rw [upd_ne hv]
                        exact q2 b o hv q
                  · rintro σ' H3 ⟨rfl, S3, k3⟩
                    walk_at "rd"
                    exact ⟨_, _, S3.o, fs_points _ _, _, _, _, _, rfl, S3, fun H4 s4 => fin H3 S3 k3 H4 s4⟩
            | _ => cases hb
          | _ => cases hc
      · unfold voteM
        rw [em]
        exact if_pos hb
    · unfold voteM
      rw [sayingME, h]
      rfl
/-! ### Wood.strike -/
def spStrike (K : PySem.W.Frag) : Sp := fun vs H Q E => ∃ (L : Lay) (x y : V) (d b : PyData), vs = [.ref L.p, x, y] ∧ WoodAt K H L ∧ Wf L.rows ∧ L.ents.length < 64 ∧ Dp K H x d ∧ Dp K H y b ∧ Short b ∧
  (∀ m M, strikeM L.wd d b = .ok (m, M) → ∀ H' L', WoodAt K H' L' → L'.wd = M → Step H L H' L' → Q (.int m) H') ∧ (∀ e, strikeM L.wd d b = .error e → ∀ H', Same H H' → Bad K E e H')
theorem ownM_int {M : Wd} {d b : PyData} {n : Int} {r : Row} (h : ownM M d b = .ok (n, r)) : d = .int n ∧ findR M.rows n = some r := by
  unfold ownM at h
  cases q : sayingM M d with
  | none => rw [q] at h; cases h
  | some p =>
    obtain ⟨m, r'⟩ := p
    rw [q] at h
    have h : (if nameOk b = false then .error .name else if isS b r'.who = true ∧ r'.struck = false then .ok (m, r') else .error .yours) = (.ok (n, r) : Except Er (Int × Row)) := h
    have e : (m, r') = (n, r) := by
      split at h
      · cases h
      · split at h
        · exact Except.ok.inj h
        · cases h
    cases e
    unfold sayingM at q
    cases d with
    | int k =>
      have q : (if 1 ≤ k ∧ k ≤ M.came then (findR M.rows k).map fun r => (k, r) else none) = some (n, r) := q
      split at q
      · cases f : findR M.rows k with
        | none => rw [f] at q; cases q
        | some z =>
          rw [f] at q
          cases q
          exact ⟨rfl, f⟩
      · cases q
    | _ => cases q
abbrev N_Wood_strike : List Str := ["self", "number", "by", "one", "many", "above"]
theorem sc_Wood_strike : FnScope N_Wood_strike ["self", "number", "by"] (defScope s_Wood_strike) := ⟨rfl, rfl, rfl, by decide +kernel, rfl, by decide +kernel, by decide +kernel⟩
theorem be_Wood_strike : BindEq "strike" "Wood.strike" s_Wood_strike ["self", "number", "by"] := fun _ _ _ _ _ _ us hl => match us, hl with | [_, _, _], _ => rfl
theorem D_Wood_strike (T : Txt K mg base) : Def P w K mg base 4 (He.ma K (He.ga K "Wood") "strike") ["self", "number", "by"] (spStrike K) := by
  refine mk_def T.f_Wood_strike sc_Wood_strike be_Wood_strike (fun vs H Q E h => ?_) (fun cdv A outer s H vs Q E hr h => ?_)
  · obtain ⟨L, x, y, d, b, rfl, _⟩ := h
    rfl
  · obtain ⟨L, x, y, d, b, rfl, W, F, hl, hx, hy, sb, k1, k0⟩ := h
    refine ⟨_, (pss_cons (ps_set (i := 3) sc_Wood_strike.nd rfl (Or.inl rfl) (pe_md (pv 0) T.c_Wood.c T.m_Wood_own (D_Wood_own T) (by exact hr.mono (by first | decide | omega)) passE (pa_cons (pv 1) (pa_cons (pv 2) pa_nil))))
      (pss_cons (ps_fld (pv 3) pe_bl (by rfl))
      (pss_cons (ps_set (i := 4) sc_Wood_strike.nd rfl (Or.inl rfl) pe_int)
      (pss_cons (ps_while ownE (PW.pt (pw_and (pt_cmpR op_ne (pv 1) pe_int (nomark _)) (pw_and (pt_val (pe_fld (pe_dg (pe_fld (pv 0) (by rfl)) (pv 1) (by exact hu_of hr)) (by rfl))) (pw_and1 (pt_eqd (pe_md (pv 0) T.c_Wood.c T.m_Wood_replies (D_Wood_replies T) (by exact hr.mono (by first | decide | omega)) passE (pa_cons (pv 1) pa_nil)) (pe_lst pa_nil) (by exact hr.units)))))) (pss_cons (ps_set (i := 5) sc_Wood_strike.nd rfl (Or.inl rfl) (pe_fld (pe_dp1 (pe_fld (pv 0) (by rfl)) (pv 1)) (by rfl)))
      (pss_cons (ps_set (i := 1) sc_Wood_strike.nd rfl (Or.inl rfl) (pv 5))
      (pss_one (ps_set (i := 4) sc_Wood_strike.nd rfl (Or.inl rfl) (pe_op op_add (pv 4) pe_int))))))
      (pss_one (ps_ret (pv 4))))))), ?_⟩
    walk_at "rd"
    refine ⟨_, _, W.top, fw_no _ _ _ (by decide) (by decide) (by decide), L, x, y, d, b, rfl, W, hx, hy, sb, fun r hr H1 s1 => k0 r ?_ H1 s1, fun n r hr e he er H1 s1 => ?_⟩
    · unfold strikeM
      rw [hr]
    · obtain ⟨ed, fr⟩ := ownM_int hr
      subst ed
      cases hx
      have W1 := W.same s1
      have hm := (findE_mem he).1
      have en := (findE_mem he).2
      have S := W1.say e hm
      have nva : e.v ≠ e.a := ne_of S.d S.o (by intro q; cases q)
      refine ⟨_, rfl, _, _, _, S.o, T.c_Saying.c, T.n_Saying_is_struck, by rw [fs_len]; decide, ?_⟩
      rw [fp_struck]
      have kp : ∀ b o, b ≠ e.a → b ≠ e.v → H1 b = some o → upd H1 e.a (.ins (cS K) e.x (sayFs { e.row with struck := true } e.v)) b = some o := fun b o h1 _ q => by rw [upd_ne h1]; exact q
      have W2 := W1.set hm (r := { e.row with struck := true }) ⟨upd_same, by rw [upd_ne nva]; exact S.d, S.nd, S.sz⟩ kp
      have st2 := (Step.same s1).trans (Step.set (r := { e.row with struck := true }) hm kp)
      generalize upd H1 e.a (.ins (cS K) e.x (sayFs { e.row with struck := true } e.v)) = H2 at W2 st2 ⊢
      have er2 : ({ L with ents := setE L.ents e.n { e.row with struck := true } } : Lay).rows = setR L.rows n { r with struck := true } := by
        rw [en, er]
        exact setE_rows _ _ _
      have ec2 : ({ L with ents := setE L.ents e.n { e.row with struck := true } } : Lay).came = L.came := rfl
      have ek2 : ({ L with ents := setE L.ents e.n { e.row with struck := true } } : Lay).clock = L.clock := rfl
      have ep2 : ({ L with ents := setE L.ents e.n { e.row with struck := true } } : Lay).p = L.p := rfl
      have hl2 : ({ L with ents := setE L.ents e.n { e.row with struck := true } } : Lay).ents.length < 64 := by
        show (setE L.ents e.n _).length < 64
        unfold setE
        rw [List.length_map]
        exact hl
      generalize ({ L with ents := setE L.ents e.n { e.row with struck := true } } : Lay) = L2 at W2 st2 er2 ec2 ek2 ep2 hl2
      have es : strikeM L.wd (.int n) b = .ok ((goneR L2.rows n).2, ⟨(goneR L2.rows n).1, L.came, L.clock⟩) := by
        unfold strikeM
        rw [hr, er2]
        rfl
      have F2 : Wf L2.rows := by rw [er2]; exact F.set fr rfl
      have hn2 : n = 0 ∨ ∃ r, findR L2.rows n = some r := .inr ⟨_, by rw [er2]; exact findR_set F.nk fr⟩
      refine ⟨fun m σ H' => ∃ (L' : Lay) (i c : Int) (ab : Option V), σ = [some (.ref L.p), some (.int i), some y, some (.ref e.a), some (.int c), ab] ∧ m = i.toNat ∧ WoodAt K H' L' ∧ Step H L H' L' ∧ Wf L'.rows ∧ L'.ents.length < 64 ∧ L'.came = L.came ∧ L'.clock = L.clock ∧ (i = 0 ∨ ∃ r, findR L'.rows i = some r) ∧ (goneR L2.rows n).1 = (goneR L'.rows i).1 ∧ (goneR L2.rows n).2 = (goneR L'.rows i).2 + c,
        ⟨_, L2, n, 0, none, rfl, rfl, W2, st2, F2, hl2, ec2, ek2, hn2, rfl, by omega⟩, ?_⟩
      rintro m σ H' ⟨L', i, c, ab, rfl, rfl, W', st', F', hl', ec', ek', hi', eg1, eg2⟩
      have pp : L'.p = L.p := st'.p
      have out : goneR L'.rows i = (L'.rows, 0) → Q (.int c) H' := fun g => by
        refine k1 c ⟨L'.rows, L.came, L.clock⟩ ?_ H' L' W' ?_ st'
        · rw [es, eg1, eg2, g]
          simp
        · unfold Lay.wd
          rw [ec', ek']
      walk_at "rd"
      refine ⟨rfl, ?_⟩
      by_cases i0 : i = 0
      · rw [decide_eq_true i0]
        refine iteF (out ?_)
        rw [i0, goneR, F'.find0]
      · rw [decide_eq_false i0]
        obtain ⟨ri, hri⟩ := hi'.resolve_left i0
        obtain ⟨e', he', eri⟩ : ∃ e', findE L'.ents i = some e' ∧ e'.row = ri := by
          rw [L'.find] at hri
          cases q : findE L'.ents i with
          | none => rw [q] at hri; cases hri
          | some e' => rw [q] at hri; exact ⟨e', rfl, Option.some.inj hri⟩
        have S' := W'.say e' (findE_mem he').1
        rw [← pp]
        refine iteT (W'.fsay T (W'.at he' ⟨_, rfl, S'.fstruck T ⟨_, rfl, ?_⟩⟩))
        cases cs : e'.row.struck with
        | false =>
          refine iteF (out ?_)
          rw [goneR, hri]
          show (if h : _ then _ else _) = _
          rw [dif_neg (by rw [← eri, cs]; simp)]
        | true =>
          refine iteT ⟨_, _, W'.top, fw_no _ _ _ (by decide) (by decide) (by decide), L', i, rfl, W', hl', fun q H3 hq s3 e3 => ⟨Nat.zero_le _, fun l hl0 => ?_⟩⟩
          have s4 := s3.trans (Same.new (o := .lst []) hl0)
          refine use_eqD (dp_ints ((Same.new hl0) _ _ e3)) (dp_ints (ns := []) upd_same) (shaped_ints _) (shaped_ints []) ⟨_, rfl, ?_⟩
          rw [eqv_ints]
          generalize upd H3 l (.lst []) = H4 at s4 ⊢
          have W4 := W'.same s4
          have S4 := W4.say e' (findE_mem he').1
          obtain ⟨up1, up2, up3, up4⟩ := F'.up hri
          by_cases er0 : sortI (repliesR L'.rows i) = []
          · have re : repliesR L'.rows i = [] := by
              have := sortI_perm (repliesR L'.rows i)
              rw [er0] at this
              exact this.nil_eq.symm
            rw [decide_eq_true er0]
            have g : goneR L'.rows i = ((goneR (dropR L'.rows i) ri.under).1, (goneR (dropR L'.rows i) ri.under).2 + 1) := by
              rw [goneR, hri]
              show (if h : _ then _ else _) = _
              rw [dif_pos ⟨up2, up3, up4, by rw [← eri]; exact cs, re⟩]
            refine iteT ⟨_, fun _ _ h => h, W4.fsay T ⟨_, rfl, .inl ⟨_, .inl W4.dic⟩, _, W4.dic, Sum.inl i, rfl, _, by rw [valE, he']; rfl, _, rfl, ?_⟩⟩
            refine fld (by rw [upd_ne (ne_of S4.o W4.dic (by intro q; cases q))]; exact S4.o) T.c_Saying.c T.n_Saying_under (fs_under _ _) ?_
            have st5 := (st'.trans (Step.same s4)).trans (Step.pop (L := L') i (.dK (dropK (L'.ents.map entK) (Sum.inl i))))
            refine ⟨ri.under.toNat, by omega, { L' with ents := L'.ents.filter fun e => decide (e.n ≠ i) }, ri.under, c + 1, some (.int ri.under), ?_, rfl, W4.pop i, st5, ?_, ?_, ec', ek', ?_, ?_, ?_⟩
            · rw [eri]
            · rw [pop_rows]
              exact F'.drop re
            · exact Nat.lt_of_le_of_lt (List.length_filter_le _ _) hl'
            · rw [pop_rows]
              rcases F'.has _ (findR_mem hri) with z | ⟨z, hz⟩
              · exact .inl z
              · right
                have hz : findR L'.rows ri.under = some z := hz
                rw [findR_drop, if_neg (by omega)]
                exact ⟨z, hz⟩
            · rw [eg1, g, pop_rows]
            · rw [eg2, g, pop_rows]
              show (goneR (dropR L'.rows i) ri.under).2 + 1 + c = _
              omega
          · rw [decide_eq_false er0]
            refine iteF ?_
            have g : goneR L'.rows i = (L'.rows, 0) := by
              rw [goneR, hri]
              show (if h : _ then _ else _) = _
              rw [dif_neg fun h => er0 (by rw [h.2.2.2.2]; exact sortI_self List.Pairwise.nil)]
            refine k1 c ⟨L'.rows, L.came, L.clock⟩ ?_ H4 L' W4 ?_ (st'.trans (Step.same s4))
            · rw [es, eg1, eg2, g]
              simp
            · unfold Lay.wd
              rw [ec', ek']
end
end Vw
namespace Vw
open PySem PySem.Spec PyProof.Rows L2
local macro_rules | `(tactic| walk_at "rd") => `(tactic| simp only [tSeq, tNext, tIfS, tAsg, tRet, tRetN, tDrop, tVar, tC, tOp, tUn, tTest, tB, tAnd, tOr, tNot, tAndV, tOrV, tNotV, tIf, tChain, tCB, tCons, tNil, tCall, tMeth, tMake, tFld, sFld, tTup, tLst, tTupS, tLstS, tDNewKS, tDNewTS, tTold, tCmp, t2I, tIsN, tNotN, tPar, gName, gNil, gCons, gTup, gSub, rI0, rU, rEq, rNe, tDGet, tDIn, tDNotIn, sDPut, tDNewK, tDGet1, tDGet2, tDPop1, tDPop2, tBM, tBM0, tM0, tM1, tSl, tPart, tNoPart, tBreak, tCont, tThru, L2.start, List.map_cons, List.map_nil, List.length_cons, List.length_nil, List.cons_append, List.nil_append, List.append_nil, List.replicate_succ, List.replicate_zero, Nat.reduceAdd, Nat.reduceSub, Nat.zero_add, List.getElem?_cons_zero, List.getElem?_cons_succ, List.set_cons_zero, List.set_cons_succ, wipe, cxOf_K, tYes, List.cons.injEq, and_self, Option.some.injEq, V.int.injEq, V.bl.injEq, V.ref.injEq, V.str.injEq, exists_eq_left', exists_eq_left, exists_and_left, and_assoc, true_and, and_true, if_true, if_false, ite_true, ite_false, Bool.not_true, Bool.not_false, Bool.false_eq_true, reduceIte])
theorem WoodAt.put {K : PySem.W.Frag} {H H' : Hp} {L : Lay} (W : WoodAt K H L) {n : Int} {a x v : Addr} {r : Row} (S : SayAt K H' a x v r) (ha : H a = none) (hv : H v = none) (hn : ∀ e ∈ L.ents, e.n ≠ n) (kp : ∀ b o, b ≠ L.d → H b = some o → H' b = some o)
    (hd : H' L.d = some (.dK (L.ents.map entK ++ [entK ⟨n, r, a, x, v⟩]))) (sz : L.ents.length + 1 < 100000) : WoodAt K H' { L with ents := L.ents ++ [⟨n, r, a, x, v⟩] } := by
  have npd : L.p ≠ L.d := ne_of W.top W.dic (by intro q; cases q)
  refine ⟨kp _ _ npd W.top, ?_, fun e he => ?_, ?_, ?_, ?_, fun e he => ?_, fun e he => ?_, ?_⟩
  · show H' L.d = some (.dK ((L.ents ++ [_]).map entK))
    rw [List.map_append]
    exact hd
  · rcases List.mem_append.mp he with he | he
    · have S0 := W.say e he
      exact ⟨kp _ _ (ne_of S0.o W.dic (by intro q; cases q)) S0.o, kp _ _ (W.dv e he) S0.d, S0.nd, S0.sz⟩
    · cases List.mem_singleton.mp he
      exact S
  · show ((L.ents ++ [(⟨n, r, a, x, v⟩ : Ent)]).map (·.n)).Nodup
    rw [List.map_append]
    refine nd_snoc W.nk fun m => ?_
    obtain ⟨e, he, q⟩ := List.mem_map.mp m
    exact hn e he q
  · show ((L.ents ++ [(⟨n, r, a, x, v⟩ : Ent)]).map (·.a)).Nodup
    rw [List.map_append]
    refine nd_snoc W.nda fun m => ?_
    obtain ⟨e, he, q⟩ := List.mem_map.mp m
    exact ne_of_none (W.say e he).o ha q
  · show ((L.ents ++ [(⟨n, r, a, x, v⟩ : Ent)]).map (·.v)).Nodup
    rw [List.map_append]
    refine nd_snoc W.ndv fun m => ?_
    obtain ⟨e, he, q⟩ := List.mem_map.mp m
    exact ne_of_none (W.say e he).d hv q
  · rcases List.mem_append.mp he with he | he
    · exact W.dv e he
    · cases List.mem_singleton.mp he
      exact (ne_of_none W.dic hv).symm
  · rcases List.mem_append.mp he with he | he
    · exact W.pa e he
    · cases List.mem_singleton.mp he
      exact (ne_of_none W.top ha).symm
  · show (L.ents ++ [_]).length < 100000
    rw [List.length_append]
    exact sz
theorem Step.put {H H' : Hp} {L : Lay} {n : Int} {a x v : Addr} {r : Row} (ha : H a = none) (hv : H v = none) (kp : ∀ b o, b ≠ L.d → H b = some o → H' b = some o) : Step H L H' { L with ents := L.ents ++ [⟨n, r, a, x, v⟩] } := by
  refine ⟨rfl, fun b o hb e => kp b o (fun z => hb (by rw [z]; exact List.mem_cons_of_mem _ List.mem_cons_self)) e, fun b hb => ?_⟩
  have hb : b ∈ L.p :: L.d :: ((L.ents ++ [(⟨n, r, a, x, v⟩ : Ent)]).map (·.a) ++ (L.ents ++ [(⟨n, r, a, x, v⟩ : Ent)]).map (·.v)) := hb
  simp only [List.mem_cons, List.mem_append, List.map_append, List.map_cons, List.map_nil, List.not_mem_nil, or_false] at hb
  rcases hb with rfl | rfl | (h | rfl) | (h | rfl)
  · exact .inl List.mem_cons_self
  · exact .inl (List.mem_cons_of_mem _ List.mem_cons_self)
  · exact .inl (List.mem_cons_of_mem _ (List.mem_cons_of_mem _ (List.mem_append_left _ h)))
  · exact .inr ha
  · exact .inl (List.mem_cons_of_mem _ (List.mem_cons_of_mem _ (List.mem_append_right _ h)))
  · exact .inr hv
theorem Step.top {H : Hp} {L : Lay} {c k : Int} {o : HO} : Step H L (upd H L.p o) { L with came := c, clock := k } :=
  ⟨rfl, fun b u hb e => by rw [upd_ne (fun z => hb (by rw [z]; exact List.mem_cons_self))]; exact e, fun b hb => .inl hb⟩
section
variable {P : Program} {w : World} {K : PySem.W.Frag} {mg : Str → Option Value} {base : Heap}
def spSay (K : PySem.W.Frag) : Sp := fun vs H Q E => ∃ (L : Lay) (x y z : V) (b u t : PyData), vs = [.ref L.p, x, y, z] ∧ WoodAt K H L ∧ Wf L.rows ∧ (∀ p ∈ L.rows, p.1 ≤ L.came) ∧ Dp K H x b ∧ Dp K H y u ∧ Dp K H z t ∧ Short b ∧ SeqAt.shaped u = true ∧ Short t ∧
  (∀ n M, sayM L.wd b u t = .ok (n, M) → ∀ H' L', WoodAt K H' L' → L'.wd = M → Step H L H' L' → Q (.int n) H') ∧ (∀ e, sayM L.wd b u t = .error e → ∀ H', Same H H' → Bad K E e H')
abbrev N_Wood_say : List Str := ["self", "by", "under", "text"]
theorem sc_Wood_say : FnScope N_Wood_say ["self", "by", "under", "text"] (defScope s_Wood_say) := ⟨rfl, rfl, rfl, by decide +kernel, rfl, by decide +kernel, by decide +kernel⟩
theorem be_Wood_say : BindEq "say" "Wood.say" s_Wood_say ["self", "by", "under", "text"] := fun _ _ _ _ _ _ us hl => match us, hl with | [_, _, _, _], _ => rfl
theorem D_Wood_say (T : Txt K mg base) : Def P w K mg base 3 (He.ma K (He.ga K "Wood") "say") ["self", "by", "under", "text"] (spSay K) := by
  refine mk_def T.f_Wood_say sc_Wood_say be_Wood_say (fun vs H Q E h => ?_) (fun cdv A outer s H vs Q E hr h => ?_)
  · obtain ⟨L, x, y, z, b, u, t, rfl, _⟩ := h
    rfl
  · obtain ⟨L, x, y, z, b, u, t, rfl, W, F, hle, hx, hy, hz, sb, su, st, k1, k0⟩ := h
    refine ⟨_, (pss_cons (ps_expr (pe_cd (D_need_name T) (by exact hr.mono (by first | decide | omega)) T.g_need_name passE (pa_cons (pv 1) pa_nil)))
      (C8.pss_cut (ps_if (PW.pt (pw_or (pt_ned (pv 2) pe_int (by exact hr.units)) (pw_or1 (pt_val (pe_callB call_isi (by rfl) T.b_isinstance (by decide +kernel) (pa_cons (pv 2) (pa_cons (pe_bltn (v := .ty "bool") (by rfl) T.b_bool (by decide +kernel) rfl) pa_nil))))))) (pss_one (ps_expr (pe_md (pv 0) T.c_Wood.c T.m_Wood_saying (D_Wood_saying T) (by exact hr.mono (by first | decide | omega)) passE (pa_cons (pv 2) pa_nil)))) pss_nil)
      (pss_cons (ps_expr (pe_cd (D_need_text T) (by exact hr.mono (by first | decide | omega)) T.g_need_text passE (pa_cons (pv 3) pa_nil)))
      (C8.pss_cut (ps_if (PW.pt (pw_or (pt_cmpR op_ge (pe_callB call_lenD (by rfl) T.b_len (by decide +kernel) (pa_cons (pe_fld (pv 0) (by rfl)) pa_nil)) (pe_gk T.k_MOST_SAYINGS) (nomark _)) (pw_or1 (PW.pt (pw_and (pt_ned (pv 2) pe_int (by exact hr.units)) (pw_and1 (pt_cmpR op_ge (pe_op op_add (pe_md (pv 0) T.c_Wood.c T.m_Wood_deep (D_Wood_deep T) (by exact hr.mono (by first | decide | omega)) passE (pa_cons (pv 2) pa_nil)) pe_int) (pe_gk T.k_MOST_DEEP) (nomark _)))))))) (pss_one (ps_rs T.x_Full)) pss_nil)
      (pss_cons (ps_fld (pv 0) (pe_op op_add (pe_fld (pv 0) (by rfl)) pe_int) (by rfl))
      (pss_cons (ps_dp (pe_fld (pv 0) (by rfl)) (pe_fld (pv 0) (by rfl)) (pe_mk T.c_Saying.m (D_Saying___init__ T) (by exact hr.mono (by first | decide | omega)) T.c_Saying.g passE (pa_cons (pv 1) (pa_cons (pv 2) (pa_cons (pv 3) (pa_cons (pe_fld (pv 0) (by rfl)) pa_nil))))) (by exact hu_of hr))
      (pss_one (ps_ret (pe_fld (pv 0) (by rfl)))))))))), ?_⟩
    walk_at "rd"
    refine ⟨x, b, rfl, hx, sb, fun hb H1 s1 => ?_, fun hb H1 s1 => k0 .name ?_ H1 s1⟩
    · have hb0 : ¬ nameOk b = false := by rw [hb]; decide
      have W1 := W.same s1
      have hy1 := dp_same s1 hy
      have k0u : underOk L.wd u = false → Bad K E .no H1 := fun hu => k0 .no (by unfold sayM; rw [if_neg hb0, if_pos hu]) H1 s1
      refine ⟨fun σ' H' => H' = H1 ∧ σ' = [some (.ref L.p), some x, some y, some z] ∧ underOk L.wd u = true, ?_, ?_⟩
      · walk_at "rd"
        have say : ∀ {Q' : VK}, (underOk L.wd u = true → Q' .non H1) → isZero u = false → (∃ dx fs, H1 L.p = some (.ins (He.ga K "Wood") dx fs) ∧ fs.lookup (Str.ofString "saying") = none ∧ spSaying K [.ref L.p, y] H1 (fun _ H1 => Q' .non H1) E) := fun {Q'} q z => by
          refine ⟨_, _, W1.top, fw_no _ _ _ (by decide) (by decide) (by decide), L, y, u, rfl, W1, hy1, fun e he => q ?_, fun h => k0u ?_⟩
          · exact (underOk_iff L z).mpr ⟨e, he⟩
          · cases c : underOk L.wd u with
            | false => rfl
            | true =>
              obtain ⟨e, he⟩ := (underOk_iff L z).mp c
              rw [he] at h
              cases h
        refine use_neD hy1 (.int 0) su rfl ⟨_, rfl, ?_⟩
        cases e0 : PyData.eqv u (.int 0) with
        | false =>
          refine iteT (say (Q' := fun _ H' => H' = H1 ∧ underOk L.wd u = true) (fun h => ⟨rfl, h⟩) ?_)
          cases u with
          | int n =>
            have : ¬ n = 0 := by rw [eqv_int] at e0; exact of_decide_eq_false e0
            simp [isZero, this]
          | _ => rfl
        | true =>
          refine iteF (use_isi hy1 (kit_bool _) ⟨_, rfl, ?_⟩)
          cases hy1 with
          | bl b => exact iteT (say (Q' := fun _ H' => H' = H1 ∧ underOk L.wd (.bool b) = true) (fun h => ⟨rfl, h⟩) rfl)
          | int n =>
            have : n = 0 := by rw [eqv_int] at e0; exact of_decide_eq_true e0
            subst this
            exact iteF ⟨rfl, rfl⟩
          | _ => cases e0
      · rintro σ' H' ⟨rfl, rfl, hu⟩
        have hu0 : ¬ underOk L.wd u = false := by rw [hu]; decide
        obtain ⟨n, rfl⟩ : ∃ n, u = .int n := by
          cases u with
          | int n => exact ⟨n, rfl⟩
          | _ => cases hu
        cases hy
        obtain ⟨who, rfl⟩ : ∃ who, b = .str who := by
          cases b with
          | str n => exact ⟨n, rfl⟩
          | _ => cases hb
        cases hx
        walk_at "rd"
        refine ⟨z, t, rfl, dp_same s1 hz, st, fun ht H2 s2 => ?_, fun ht H2 s2 => k0 .text ?_ H2 (s1.trans s2)⟩
        · have ht0 : ¬ textOk t = false := by rw [ht]; decide
          obtain ⟨text, rfl⟩ : ∃ text, t = .str text := by
            cases t with
            | str n => exact ⟨n, rfl⟩
            | _ => cases ht
          cases hz
          have W2 := W1.same s2
          have s12 := s1.trans s2
          have ems : sayM L.wd (.str who) (.int n) (.str text) = if 60 ≤ L.rows.length ∨ (n ≠ 0 ∧ 8 ≤ deepI L.rows n + 1) then .error .full else .ok (L.came + 1, ⟨L.rows ++ [(L.came + 1, ⟨who, n, text, L.clock, [], false⟩)], L.came + 1, L.clock⟩) := by
            unfold sayM
            rw [if_neg hb0, if_neg hu0, if_neg ht0]
            rfl
          have lr : L.rows.length = L.ents.length := by unfold Lay.rows; rw [List.length_map]
          refine ⟨fun σ' H' => H' = H2 ∧ σ' = [some (.ref L.p), some (.str who), some (.int n), some (.str text)] ∧ ¬ (60 ≤ L.rows.length ∨ (n ≠ 0 ∧ 8 ≤ deepI L.rows n + 1)), ?_, ?_⟩
          · walk_at "rd"
            have bad : (60 ≤ L.rows.length ∨ (n ≠ 0 ∧ 8 ≤ deepI L.rows n + 1)) → Bad K E .full H2 := fun c => k0 .full (by rw [ems, if_pos c]) H2 s12
            refine W2.fsay T ⟨_, rfl, _, W2.dic, ?_⟩
            rw [List.length_map]
            by_cases c1 : (60 : Int) ≤ L.ents.length
            · rw [decide_eq_true c1]
              exact iteT (bad (.inl (by omega)))
            · rw [decide_eq_false c1]
              refine iteF (use_neD (.int n) (.int 0) rfl rfl ⟨_, rfl, ?_⟩)
              rw [eqv_int]
              by_cases n0 : n = 0
              · rw [decide_eq_true n0]
                exact iteF ⟨rfl, fun h => h.elim (fun h => by omega) (fun h => h.1 n0)⟩
              · rw [decide_eq_false n0]
                have hh : Here L n := by
                  right
                  simp only [underOk, Bool.or_eq_true, Bool.and_eq_true, decide_eq_true_eq, n0, false_or] at hu
                  have := hu.2
                  have this : (findR L.rows n).isSome = true := this
                  rw [L.find] at this
                  cases q : findE L.ents n with
                  | none => rw [q] at this; cases this
                  | some e => exact ⟨e, rfl⟩
                refine iteT ⟨_, _, W2.top, fw_no _ _ _ (by decide) (by decide) (by decide), L, n, rfl, W2, F, hh, _, rfl, ?_⟩
                by_cases c2 : (8 : Int) ≤ (deepI L.rows n : Nat) + 1
                · rw [decide_eq_true c2]
                  exact iteT (bad (.inr ⟨n0, by omega⟩))
                · rw [decide_eq_false c2]
                  exact iteF ⟨rfl, fun h => h.elim (fun h => by omega) (fun h => by omega)⟩
          · rintro σ' H3 ⟨rfl, rfl, nf⟩
            rw [if_neg nf] at ems
            walk_at "rd"
            refine W2.fcame T ⟨_, rfl, _, _, _, W2.top, T.c_Wood.c, T.n_Wood_came, by rw [fw_len]; decide, ?_⟩
            rw [fpw_came]
            have W3 := W2.setTop (L.came + 1) L.clock
            have st3 := (Step.same s12).trans (Step.top (H := H3) (L := L) (c := L.came + 1) (k := L.clock) (o := .ins (cW K) L.dx (woodFs L.d (L.came + 1) L.clock)))
            generalize upd H3 L.p (.ins (cW K) L.dx (woodFs L.d (L.came + 1) L.clock)) = H4 at W3 st3 ⊢
            have ents3 : ({ L with came := L.came + 1, clock := L.clock } : Lay).ents = L.ents := rfl
            refine fld W3.top T.c_Wood.c T.n_Wood_clock (fw_clock _ _ _) fun a dx ha hdx nax => ?_
            refine ⟨a, dx, who, text, n, L.clock, rfl, upd_same, fun v H5 hv S5 k5 => ⟨rfl, ?_⟩⟩
            have sa : Same H4 (upd (upd H4 dx (.own a)) a (.ins (cS K) dx [])) := (Same.new hdx).trans (Same.new (by rw [upd_ne nax.symm]; exact ha))
            have k45 : ∀ b o, b ≠ L.d → H4 b = some o → H5 b = some o := fun b o _ e => k5 b o (ne_of_none e ha) (sa b o e)
            have s45 : Same H4 H5 := fun b o e => k5 b o (ne_of_none e ha) (sa b o e)
            have hv4 : H4 v = none := sa.free hv
            have W5 := W3.same s45
            refine fld W5.top T.c_Wood.c T.n_Wood_sayings (fw_sayings _ _ _) ?_
            refine fld W5.top T.c_Wood.c T.n_Wood_came (fw_came _ _ _) ?_
            have hnew : ∀ e ∈ L.ents, e.n ≠ L.came + 1 := fun e he z => by
              have := hle (e.n, e.row) (List.mem_map.mpr ⟨e, he, rfl⟩)
              have this : e.n ≤ L.came := this
              omega
            have vn : valV (L.ents.map entK) (Sum.inl (L.came + 1)) = none := by
              rw [valE]
              have : findE L.ents (L.came + 1) = none := by
                unfold findE
                rw [List.find?_eq_none]
                intro e he
                simpa using hnew e he
              rw [this]
              rfl
            have sz := W.sz
            refine ⟨_, rfl, _, DPut.k (k := Sum.inl (L.came + 1)) W5.dic (by rw [List.length_map, sizeLine_eq]; show L.ents.length < _; omega), ?_⟩
            have ed : putK (L.ents.map entK) (Sum.inl (L.came + 1)) (.ref a) = L.ents.map entK ++ [entK ⟨L.came + 1, ⟨who, n, text, L.clock, [], false⟩, a, dx, v⟩] := putK_new _ vn
            have kp6 : ∀ b o, b ≠ L.d → H4 b = some o → upd H5 L.d (.dK (putK (L.ents.map entK) (Sum.inl (L.came + 1)) (.ref a))) b = some o := fun b o hb e => by
              rw [upd_ne hb]
              exact s45 b o e
            have S6 : SayAt K (upd H5 L.d (.dK (putK (L.ents.map entK) (Sum.inl (L.came + 1)) (.ref a)))) a dx v ⟨who, n, text, L.clock, [], false⟩ :=
              ⟨by rw [upd_ne (ne_of_none W3.dic ha).symm]; exact S5.o, by rw [upd_ne (ne_of_none W3.dic hv4).symm]; exact S5.d, S5.nd, S5.sz⟩
            have W6 := W3.put S6 ha hv4 hnew kp6 (by show upd H5 L.d _ L.d = _; rw [upd_same, ed]) (by show L.ents.length + 1 < 100000; simp only [not_or] at nf; omega)
            refine fld W6.top T.c_Wood.c T.n_Wood_came (fw_came _ _ _) ?_
            refine k1 _ _ ems _ _ W6 ?_ (st3.trans (Step.put ha hv4 kp6))
            unfold Lay.wd Lay.rows
            simp
        · unfold sayM
          rw [if_neg hb0, if_neg hu0, if_pos ht]
    · unfold sayM
      rw [if_pos hb]
end
end Vw
namespace Vw
open PySem PySem.Spec PyProof.Rows L2
local macro_rules | `(tactic| walk_at "rd") => `(tactic| simp only [tSeq, tNext, tIfS, tAsg, tRet, tRetN, tDrop, tVar, tC, tOp, tUn, tTest, tB, tAnd, tOr, tNot, tAndV, tOrV, tNotV, tIf, tChain, tCB, tCons, tNil, tCall, tMeth, tMake, tFld, sFld, tTup, tLst, tTupS, tLstS, tDNewKS, tDNewTS, tTold, tCmp, t2I, tIsN, tNotN, tPar, gName, gNil, gCons, gTup, gSub, rI0, rU, rEq, rNe, tDGet, tDIn, tDNotIn, sDPut, tDNewK, tDGet1, tDGet2, tDPop1, tDPop2, tBM, tBM0, tM0, tM1, tSl, tPart, tNoPart, tBreak, tCont, tThru, L2.start, List.map_cons, List.map_nil, List.length_cons, List.length_nil, List.cons_append, List.nil_append, List.append_nil, List.replicate_succ, List.replicate_zero, Nat.reduceAdd, Nat.reduceSub, Nat.zero_add, List.getElem?_cons_zero, List.getElem?_cons_succ, List.set_cons_zero, List.set_cons_succ, wipe, cxOf_K, tYes, List.cons.injEq, and_self, Option.some.injEq, V.int.injEq, V.bl.injEq, V.ref.injEq, V.str.injEq, exists_eq_left', exists_eq_left, exists_and_left, and_assoc, true_and, and_true, if_true, if_false, ite_true, ite_false, Bool.not_true, Bool.not_false, Bool.false_eq_true, reduceIte])
/-! ### what the laws share: cells, draws -/
section
variable {P : Program} {w : World} {K : PySem.W.Frag} {mg : Str → Option Value} {base : Heap}
abbrev N__law_cell : List Str := ["script", "k"]
theorem sc__law_cell : FnScope N__law_cell ["script", "k"] (defScope s__law_cell) := ⟨rfl, rfl, rfl, by decide +kernel, rfl, by decide +kernel, by decide +kernel⟩
theorem be__law_cell : BindEq "_law_cell" "_law_cell" s__law_cell ["script", "k"] := fun _ _ _ _ _ _ us hl => match us, hl with | [_, _], _ => rfl
theorem D__law_cell (T : Txt K mg base) : Def P w K mg base 1 (He.ga K "_law_cell") ["script", "k"] (spCell K) := by
  refine mk_def T.f__law_cell sc__law_cell be__law_cell (fun vs H Q E h => ?_) (fun cdv A outer s H vs Q E hr h => ?_)
  · obtain ⟨p, sc, k, rfl, _⟩ := h
    rfl
  · obtain ⟨p, sc, k, rfl, hp, hl, h0, h1, q⟩ := h
    refine ⟨_, (pss_cons (ps_if (pt_eqd (pv 0) (pe_lstS pa_nil) (by exact hr.units)) (pss_one (ps_ret (pe_op op_mulX (pv 1) pe_int))) pss_nil)
      (pss_one (ps_ret (pe_op op_add (pe_ix ix_list (pv 0) (pe_op op_mod (pv 1) (pe_callB call_len_seq (by rfl) T.b_len (by decide +kernel) (pa_cons (pv 0) pa_nil))) (fun _ _ => rfl)) (pe_op op_mulX (pe_op op_fdivW (pv 1) (pe_callB call_len_seq (by rfl) T.b_len (by decide +kernel) (pa_cons (pv 0) pa_nil))) pe_int))))), ?_⟩
    walk_at "rd"
    refine ⟨Nat.zero_le _, fun l H1 hl0 s1 e0 => ?_⟩
    have e1 : SqL K H1 p (sc.map V.int) := s1.seq hp
    refine use_eqD (.lst e1 (dps_ints sc)) (dp_ints (ns := []) e0) (shaped_ints _) (shaped_ints []) ⟨_, rfl, ?_⟩
    rw [eqv_ints]
    have kb : k.natAbs < 2 ^ 10 := by omega
    by_cases hs : sc = []
    · rw [decide_eq_true hs]
      refine iteT (useI (mulx (b := 13) kb (by decide) (by omega)) ?_)
      have e : cellM sc k = k * 7919 := by rw [cellM, if_pos hs]
      rw [← e]
      exact q _ s1
    · rw [decide_eq_false hs]
      have ln : 0 < sc.length := List.length_pos_iff.mpr hs
      have lm : (sc.map V.int).length = sc.length := List.length_map _
      refine iteF ⟨_, .inl e1, useI (by rw [lm]; omega) ⟨p, _, _, V.int ((sc[(k % sc.length).toNat]?).getD 0), rfl, rfl, e1, ?_, ⟨_, .inl e1, useI ?_ (useI ?_ ⟨_, rfl, _, rfl, ?_⟩)⟩⟩⟩
      · have m0 : 0 ≤ k % (sc.length : Int) := Int.emod_nonneg _ (by omega)
        have m1 : k % (sc.length : Int) < sc.length := Int.emod_lt_of_pos _ (by omega)
        have hj : (k % sc.length).toNat < sc.length := by omega
        rw [lm]
        rw [atI_nn m0 (by rw [lm]; exact m1), List.getElem?_map, List.getElem?_eq_getElem hj]
        rfl
      · rw [lm]
        exact wide_div (b := 10) (by omega) (by omega) (by decide) (by decide)
      · rw [lm]
        refine mulx (a := 11) (b := 20) ?_ (by decide) (by omega)
        have d0 : 0 ≤ k / (sc.length : Int) := Int.ediv_nonneg h0 (by omega)
        have d1 : k / (sc.length : Int) ≤ k := Int.ediv_le_self _ h0
        omega
      · rw [lm]
        have e : cellM sc k = (sc[(k % sc.length).toNat]?).getD 0 + k / sc.length * 104729 := by rw [cellM, if_neg hs]
        rw [← e]
        exact q _ s1
abbrev N__law_drawn : List Str := ["cell", "k", "more"]
theorem sc__law_drawn : FnScope N__law_drawn ["cell", "k"] (defScope s__law_drawn) := ⟨rfl, rfl, rfl, by decide +kernel, rfl, by decide +kernel, by decide +kernel⟩
theorem be__law_drawn : BindEq "_law_drawn" "_law_drawn" s__law_drawn ["cell", "k"] := fun _ _ _ _ _ _ us hl => match us, hl with | [_, _], _ => rfl
theorem D__law_drawn (T : Txt K mg base) : Def P w K mg base 1 (He.ga K "_law_drawn") ["cell", "k"] spDraw := by
  refine mk_def T.f__law_drawn sc__law_drawn be__law_drawn (fun vs H Q E h => ?_) (fun cdv A outer s H vs Q E hr h => ?_)
  · obtain ⟨c, k, rfl, _⟩ := h
    rfl
  · obtain ⟨c, k, rfl, hc, hk, q⟩ := h
    refine ⟨_, (pss_cons (ps_set (i := 2) sc__law_drawn.nd rfl (Or.inl rfl) (pe_op op_mod (pe_op op_add (pe_op op_mulX (pv 0) pe_int) (pe_op op_mulX (pe_op op_add (pv 1) pe_int) pe_int)) pe_int))
      (pss_cons (ps_set (i := 2) sc__law_drawn.nd rfl (Or.inl rfl) (pe_op op_mod (pe_op op_mulX (pv 2) (pv 2)) pe_int))
      (pss_cons (ps_set (i := 2) sc__law_drawn.nd rfl (Or.inl rfl) (pe_op op_mulX (pe_op op_mulX (pe_op op_add (pe_op op_mod (pv 2) pe_int) pe_int) (pe_op op_add (pe_op op_fdivW (pv 2) pe_int) pe_int)) (pv 2)))
      (pss_one (ps_ret (pe_op op_mod (pv 2) pe_int)))))), ?_⟩
    walk_at "rd"
    have k1 : (k + 1).natAbs < 2 ^ 201 := by
      have : (2 : Nat) ^ 201 = 2 ^ 200 + 2 ^ 200 := by decide
      have : 1 ≤ (2 : Nat) ^ 200 := by decide
      omega
    refine useI (mulx (b := 64) hc (by decide) (by unfold bigB; omega)) (useI (mulx (b := 64) k1 (by decide) (by omega)) ⟨_, rfl, _, rfl, useI (by decide) ?_⟩)
    generalize ha : (c * 6364136223846793005 + (k + 1) * 1442695040888963407) % 340282366920938463463374607431768211507 = a
    have a0 : 0 ≤ a := by
      rw [← ha]
      exact Int.emod_nonneg _ (by decide)
    have a1 : a < 2 ^ 129 := by
      have := Int.emod_lt_of_pos (c * 6364136223846793005 + (k + 1) * 1442695040888963407) (b := 340282366920938463463374607431768211507) (by decide)
      rw [ha] at this
      exact Int.lt_trans this (by decide)
    refine useI (mulx (abs_lt a0 a1) (abs_lt a0 a1) (by omega)) (useI (by decide) ?_)
    generalize hb : a * a % 340282366920938463463374607431768211297 = b
    have b0 : 0 ≤ b := by
      rw [← hb]
      exact Int.emod_nonneg _ (by decide)
    have b1 : b < 2 ^ 129 := by
      have := Int.emod_lt_of_pos (a * a) (b := 340282366920938463463374607431768211297) (by decide)
      rw [hb] at this
      exact Int.lt_trans this (by decide)
    refine useI (by decide) ⟨_, rfl, useI (wide_div (b := 100) (by decide) (by decide) (by decide) (by decide)) ⟨_, rfl, ?_⟩⟩
    have c1 : (b % 18446744073709551557 + 1).natAbs < 2 ^ 65 := by omega
    have c2 : (b / 18446744073709551557 + 1).natAbs < 2 ^ 130 := by omega
    refine useI (mulx c1 c2 (by omega)) (useI (mulx (wide_lt c1 c2) (abs_lt b0 b1) (by omega)) (useI (by decide) ?_))
    have e : drawM c k = (b % 18446744073709551557 + 1) * (b / 18446744073709551557 + 1) * b % 340282366920938463463374607431768211507 := by
      unfold drawM
      dsimp only
      rw [ha, hb]
    rw [← e]
    exact q
end
end Vw
namespace Vw
open PySem PySem.Spec PyProof.Rows L2
local macro_rules | `(tactic| walk_at "rd") => `(tactic| simp only [tSeq, tNext, tIfS, tAsg, tRet, tRetN, tDrop, tVar, tC, tOp, tUn, tTest, tB, tAnd, tOr, tNot, tAndV, tOrV, tNotV, tIf, tChain, tCB, tCons, tNil, tCall, tMeth, tMake, tFld, sFld, tTup, tLst, tTupS, tLstS, tDNewKS, tDNewTS, tTold, tCmp, t2I, tIsN, tNotN, tPar, gName, gNil, gCons, gTup, gSub, rI0, rU, rEq, rNe, tDGet, tDIn, tDNotIn, sDPut, tDNewK, tDGet1, tDGet2, tDPop1, tDPop2, tBM, tBM0, tM0, tM1, tSl, tPart, tNoPart, tBreak, tCont, tThru, L2.start, List.map_cons, List.map_nil, List.length_cons, List.length_nil, List.cons_append, List.nil_append, List.append_nil, List.replicate_succ, List.replicate_zero, Nat.reduceAdd, Nat.reduceSub, Nat.zero_add, List.getElem?_cons_zero, List.getElem?_cons_succ, List.set_cons_zero, List.set_cons_succ, wipe, cxOf_K, tYes, List.cons.injEq, and_self, Option.some.injEq, V.int.injEq, V.bl.injEq, V.ref.injEq, V.str.injEq, exists_eq_left', exists_eq_left, exists_and_left, and_assoc, true_and, and_true, if_true, if_false, ite_true, ite_false, Bool.not_true, Bool.not_false, Bool.false_eq_true, reduceIte])
abbrev ws : List Str := ["BadName", "BadNumber", "BadText", "Full", "NoSaying", "NotYours"]
theorem ws_sum : ∀ c ∈ errs, ((ws.map fun x => decide (c = x)).map n01).sum = 1 := by decide +kernel
theorem ws_at : ∀ c ∈ errs, ws[ws.idxOf c]? = some c ∧ (ws.map fun x => decide (c = x))[ws.idxOf c]? = some true ∧ ∀ m < ws.idxOf c, (ws.map fun x => decide (c = x))[m]? = some false := by decide +kernel
section
variable {P : Program} {w : World} {K : PySem.W.Frag} {mg : Str → Option Value} {base : Heap}
abbrev N__law_word : List Str := ["e", "flags", "flag"]
theorem sc__law_word : FnScope N__law_word ["e"] (defScope s__law_word) := ⟨rfl, rfl, rfl, by decide +kernel, rfl, by decide +kernel, by decide +kernel⟩
theorem be__law_word : BindEq "_law_word" "_law_word" s__law_word ["e"] := fun _ _ _ _ _ _ us hl => match us, hl with | [_], _ => rfl
theorem H__law_word (T : Txt K mg base) : HotFn P w K mg base 2 (He.ga K "_law_word") (spWord K errs) := by
  intro A outer s H Q p hr hot pin e0 h
  obtain ⟨c, hc0, h1, h2, hf, q⟩ := h
  obtain ⟨fd, F⟩ := T.f__law_word
  have C0 := (T.wd c hc0).e
  refine hot_run (N := N__law_word) (k := 1) F sc__law_word be__law_word hr pin e0 (.cons (a := V.ref p.1) rfl .nil) rfl (fun cdv hr => ?_)
  have hp : p ∈ (L2H.cxH (L2N.CX P w) P w K mg base N__law_word "_law_word" (defScope s__law_word) (He.ga K "_law_word") cdv A outer s H E0 p).pn := List.mem_cons_self
  have hc : L2H.HotC (L2H.cxH (L2N.CX P w) P w K mg base N__law_word "_law_word" (defScope s__law_word) (He.ga K "_law_word") cdv A outer s H E0 p) := ⟨p, hot, hp⟩
  refine ⟨_, (pss_cons (ps_set (i := 1) sc__law_word.nd rfl (Or.inl rfl) (pe_lstS (pa_cons (pe_callB (cr_isP C0 hp h1 h2 hf) (by rfl) T.b_isinstance (by decide +kernel) (pa_cons (pv 0) (pa_cons (pe_glob (v := .ref _) rfl T.x_BadName.g rfl) pa_nil))) (pa_cons (pe_callB (cr_isP C0 hp h1 h2 hf) (by rfl) T.b_isinstance (by decide +kernel) (pa_cons (pv 0) (pa_cons (pe_glob (v := .ref _) rfl T.x_BadNumber.g rfl) pa_nil))) (pa_cons (pe_callB (cr_isP C0 hp h1 h2 hf) (by rfl) T.b_isinstance (by decide +kernel) (pa_cons (pv 0) (pa_cons (pe_glob (v := .ref _) rfl T.x_BadText.g rfl) pa_nil))) (pa_cons (pe_callB (cr_isP C0 hp h1 h2 hf) (by rfl) T.b_isinstance (by decide +kernel) (pa_cons (pv 0) (pa_cons (pe_glob (v := .ref _) rfl T.x_Full.g rfl) pa_nil))) pa_nil))))))
      (pss_cons (ps_set (i := 1) sc__law_word.nd rfl (Or.inl rfl) (pe_op op_catN (pv 1) (pe_lstS (pa_cons (pe_callB (cr_isP C0 hp h1 h2 hf) (by rfl) T.b_isinstance (by decide +kernel) (pa_cons (pv 0) (pa_cons (pe_glob (v := .ref _) rfl T.x_NoSaying.g rfl) pa_nil))) (pa_cons (pe_callB (cr_isP C0 hp h1 h2 hf) (by rfl) T.b_isinstance (by decide +kernel) (pa_cons (pv 0) (pa_cons (pe_glob (v := .ref _) rfl T.x_NotYours.g rfl) pa_nil))) pa_nil)))))
      (pss_cons (ps_if (PW.pt (pw_or (pt_cmpR op_ne (pe_sumflags hc (pv 1) T.b_sum T.b_int (by rfl) (by decide +kernel) (by decide +kernel) rfl (by decide +kernel) rfl (by rfl)) pe_int (nomark _)) (pw_or1 (pt_not (pt_val (pe_callB (cr_isP C0 hp h1 h2 hf) (by rfl) T.b_isinstance (by decide +kernel) (pa_cons (pv 0) (pa_cons (pe_bltn (v := .ty "ValueError") (by rfl) T.b_ValueError (by decide +kernel) rfl) pa_nil)))))))) (pss_one (ps_ret (pe_tupS (pa_cons pe_str (pa_cons pe_str pa_nil))))) pss_nil)
      (pss_one (ps_ret (pe_tupS (pa_cons pe_str (pa_cons (pe_ix ix_list (pe_lstS (pa_cons pe_str (pa_cons pe_str (pa_cons pe_str (pa_cons pe_str (pa_cons pe_str (pa_cons pe_str pa_nil))))))) (pe_bm PySem.F.plainAttrs_list PySem.F.slot_list_index PySem.F.type_list_index mt_index (pv 1) (pa_cons pe_bl pa_nil)) (fun _ _ => rfl)) pa_nil)))))))), ?_⟩
  walk_at "rd"
  simp only [cxH_K, tSumF, tVar]
  have z1 : (16 : Nat) ≤ sizeLine := by rw [sizeLine_eq]; omega
  have is {H1 : Hp} {a : Addr} {Q1 : VK} (x : Str) (hx : x ∈ errs) (q : Q1 (.bl (decide (c = x))) H1) : rIsE K (He.ga K c) a [.ref a, .ref (He.ga K x)] H1 Q1 := use_isP ((T.wd c hc0).d x hx) q
  refine is _ (by decide +kernel) (is _ (by decide +kernel) (is _ (by decide +kernel) (is _ (by decide +kernel) ⟨by omega, fun l1 H1 n1 s1 e1 => ?_⟩)))
  refine is _ (by decide +kernel) (is _ (by decide +kernel) ⟨by omega, fun l2 H2 n2 s2 e2 => ?_⟩)
  refine ⟨l1, l2, _, _, rfl, rfl, s2 _ _ e1, e2, by simp; omega, fun l3 H4 n3 s4 e4 => ?_⟩
  have e4 : H4 l3 = some (.lst ((ws.map fun x => decide (c = x)).map V.bl)) := e4
  refine ⟨_, rfl, l3, ws.map fun x => decide (c = x), rfl, SqL.of e4, ?_⟩
  rw [ws_sum c hc0]
  refine ⟨rfl, iteF (use_isV (T.wd c hc0).v ⟨_, rfl, iteF ⟨by omega, fun l5 H5 n5 s5 e5 => ?_⟩⟩)⟩
  obtain ⟨a1, a2, a3⟩ := ws_at c hc0
  have e6 := s5 _ _ e4
  refine ⟨.inl ⟨rfl, _, SqL.of e6⟩, l3, _, _, ws.idxOf c, V.bl true, rfl, rfl, SqL.of e6, rfl, by rw [List.all_map]; exact List.all_eq_true.mpr fun _ _ => rfl, by rw [List.getElem?_map, a2]; rfl, rfl, fun m z hm hz => ?_, l5, _, _, .str c, rfl, rfl, SqL.of e5, ?_, by omega, fun r H6 n6 s6 e7 => q r H6 ?_ ?_ e7⟩
  · rw [List.getElem?_map, a3 m hm] at hz
    cases hz
    rfl
  · obtain ⟨lt, _⟩ := List.getElem?_eq_some_iff.mp a1
    have lt9 : ws.idxOf c < 6 := lt
    rw [atI_nn (by omega) (by show ((ws.idxOf c : Nat) : Int) < 6; omega), Int.toNat_natCast]
    have e : ([V.str "BadName", V.str "BadNumber", V.str "BadText", V.str "Full", V.str "NoSaying", V.str "NotYours"] : List V) = ws.map V.str := rfl
    rw [e, List.getElem?_map, a1]
    rfl
  · exact s1.free (s2.free (s4.free (s5.free n6)))
  · exact ((s1.trans s2).trans s4).trans (s5.trans s6)
end
end Vw
namespace Vw
open PySem PySem.Spec PyProof.Rows L2
local macro_rules | `(tactic| walk_at "rd") => `(tactic| simp only [tSeq, tNext, tIfS, tAsg, tRet, tRetN, tDrop, tVar, tC, tOp, tUn, tTest, tB, tAnd, tOr, tNot, tAndV, tOrV, tNotV, tIf, tChain, tCB, tCons, tNil, tCall, tMeth, tMake, tFld, sFld, tTup, tLst, tTupS, tLstS, tDNewKS, tDNewTS, tTold, tCmp, t2I, tIsN, tNotN, tPar, gName, gNil, gCons, gTup, gSub, rI0, rU, rEq, rNe, tDGet, tDIn, tDNotIn, sDPut, tDNewK, tDGet1, tDGet2, tDPop1, tDPop2, tBM, tBM0, tM0, tM1, tSl, tPart, tNoPart, tBreak, tCont, tThru, L2.start, List.map_cons, List.map_nil, List.length_cons, List.length_nil, List.cons_append, List.nil_append, List.append_nil, List.replicate_succ, List.replicate_zero, Nat.reduceAdd, Nat.reduceSub, Nat.zero_add, List.getElem?_cons_zero, List.getElem?_cons_succ, List.set_cons_zero, List.set_cons_succ, wipe, cxOf_K, tYes, List.cons.injEq, and_self, Option.some.injEq, V.int.injEq, V.bl.injEq, V.ref.injEq, V.str.injEq, exists_eq_left', exists_eq_left, exists_and_left, and_assoc, true_and, and_true, if_true, if_false, ite_true, ite_false, Bool.not_true, Bool.not_false, Bool.false_eq_true, reduceIte])
section
variable {P : Program} {w : World} {K : PySem.W.Frag} {mg : Str → Option Value} {base : Heap}
abbrev N__law_told : List Str := ["deed", "e"]
theorem sc__law_told : FnScope N__law_told ["deed"] (defScope s__law_told) := ⟨rfl, rfl, rfl, by decide +kernel, rfl, by decide +kernel, by decide +kernel⟩
theorem be__law_told : BindEq "_law_told" "_law_told" s__law_told ["deed"] := fun _ _ _ _ _ _ us hl => match us, hl with | [_], _ => rfl
theorem tabs_one {P : Addr} {p : Addr × Str} {q : Str} (hp : p ∈ [(P, q)]) : p.2 = q := by
  have e : p = (P, q) := by simpa using hp
  rw [e]
/-- told(lambda: body) in the def x -/
theorem pe_tld {N : List Str} {x : Str} {sc : Scope} {f : Addr} {cdv : Value} {A : Around} {outer : List Env} {s : Shared} {H : Hp} {E : XK} {k : Nat} {params : Arguments} {body : Expr} {scope : Scope} {t : XK → TE} {q0 lpos pos : Pos} (T : Txt K mg base)
    (hcd : cdv = .ref (He.cT K (x, none)).1) (TB : LamX.TabB base mg (He.cT K (x, none)).1 (He.cT K (x, none)).2) (hr : Room (k + 4) (cxN P w K mg base N x sc f cdv A outer s H E).A)
    (L : LamX.LamS sc scope) (hdef : defaultsOf params (cxN P w K mg base N x sc f cdv A outer s H E).env = ([], []))
    (hbind : ∀ (q : Str) (cl : List (Str × Addr)) (pm cv ctv : Value), bindArgs (PySem.W.kla_fn "<lambda>" q params body scope cl pm cv ctv) ⟨[], []⟩ = pure [])
    (hbody : ∀ (A2 : Around) (outer2 : List Env) (s2 : Shared) (H2 : Hp) (E2 : XK) (f2 c2 : Addr), Room (k + 2) (A2.deeper (LamX.lamEnv (cxN P w K mg base N x sc f cdv A outer s H E) scope s2.heap.objs.size f2 c2)) → PE (lamN (cxN P w K mg base N x sc f cdv A outer s H E) A2 outer2 s2 H2 E2 scope f2 c2) body (t E2))
    (hmT : ((He.cT K (x, none)).2, lamQ (cxN P w K mg base N x sc f cdv A outer s H E)) ∈ tabs K := by first | exact List.mem_cons_self | exact List.mem_cons_of_mem _ List.mem_cons_self | exact List.mem_cons_of_mem _ (List.mem_cons_of_mem _ List.mem_cons_self) | exact List.mem_cons_of_mem _ (List.mem_cons_of_mem _ (List.mem_cons_of_mem _ List.mem_cons_self)) | exact List.mem_cons_of_mem _ (List.mem_cons_of_mem _ (List.mem_cons_of_mem _ (List.mem_cons_of_mem _ List.mem_cons_self))))
    (hg : Gl (cxN P w K mg base N x sc f cdv A outer s H E) "_law_told" := by rfl) :
    PE (cxN P w K mg base N x sc f cdv A outer s H E) (.Call (.Name "_law_told" q0) [.Lambda params body scope lpos] [] pos) (tTold K errs (tabs K) t) := by
  obtain ⟨fd, F⟩ := T.f__law_told
  have hu : ∀ p ∈ tabs K, p.1 = (He.cT K (x, none)).2 → p.2 = lamQ (cxN P w K mg base N x sc f cdv A outer s H E) := fun p hp e => congrArg Prod.snd (inj_nodup T.tn hp hmT e)
  obtain ⟨fdw, Fw⟩ := T.f__law_word
  exact pe_told (X := cxN P w K mg base N x sc f cdv A outer s H E) (T := tabs K) (cs := errs) (a := "deed") (n := "e") (wd := "_law_word") (we := "WoodError") (st := s__law_told) (fw := He.ga K "_law_word") (Ng := N__law_told) F sc__law_told be__law_told rfl T.g__law_told T.x_WoodError.g T.g__law_word Fw.kp (H__law_word T) (fun x hx => (T.wd x hx).m)
    rfl (Or.inl rfl) rfl rfl rfl rfl (fun f => rfl) TB hcd hmT hu hr L hdef hbind hbody hg
end
end Vw
namespace Vw
open PySem PySem.Spec PyProof.Rows L2
/-! ### what stays of the law's own objects -/
def IsP (o : HO) : Prop := (∃ C x f, o = .ins C x f) ∨ ∃ k, o = .dK k
/-- all but instances and their dicts stay -/
def K2 (H H' : Hp) : Prop := ∀ b o, H b = some o → ¬ IsP o → H' b = some o
def LK (H H' : Hp) : Prop := ∀ b o, H b = some o → ¬ IsP o → (∀ t, o ≠ .tbl t) → H' b = some o
theorem K2.lk {H H' : Hp} (k : K2 H H') : LK H H' := fun b o h n _ => k b o h n
theorem K2.same {H H' : Hp} (s : Same H H') : K2 H H' := fun b o h _ => s b o h
theorem LK.same {H H' : Hp} (s : Same H H') : LK H H' := fun b o h _ _ => s b o h
theorem LK.trans {H H1 H2 : Hp} (a : LK H H1) (b : LK H1 H2) : LK H H2 := fun c o h n m => b c o (a c o h n m) n m
theorem LK.ext {H H' : Hp} (e : LamX.ExtN H H') : LK H H' := fun b o h _ n => e b o h n
theorem not_lst (xs : List V) : ¬ IsP (.lst xs) := fun z => by rcases z with ⟨_, _, _, z⟩ | ⟨_, z⟩ <;> cases z
theorem not_tup (xs : List V) : ¬ IsP (.tup xs) := fun z => by rcases z with ⟨_, _, _, z⟩ | ⟨_, z⟩ <;> cases z
theorem not_dT (xs : List (List Key × V)) : ¬ IsP (.dT xs) := fun z => by rcases z with ⟨_, _, _, z⟩ | ⟨_, z⟩ <;> cases z
theorem not_tbl (t : Array Value) : ¬ IsP (.tbl t) := fun z => by rcases z with ⟨_, _, _, z⟩ | ⟨_, z⟩ <;> cases z
theorem not_frz (o : Obj) (u : HO) : ¬ IsP (.frz o u) := fun z => by rcases z with ⟨_, _, _, z⟩ | ⟨_, z⟩ <;> cases z
theorem not_code (c : Addr) (q : Str) : ¬ IsP (LamX.CodeO c q) := fun z => by unfold LamX.CodeO at z; rcases z with ⟨_, _, _, z⟩ | ⟨_, z⟩ <;> cases z
theorem LK.lst {H H' : Hp} {a : Addr} {xs : List V} (k : LK H H') (h : H a = some (.lst xs)) : H' a = some (.lst xs) := k _ _ h (not_lst _) (by intro t z; cases z)
theorem LK.tup {H H' : Hp} {a : Addr} {xs : List V} (k : LK H H') (h : H a = some (.tup xs)) : H' a = some (.tup xs) := k _ _ h (not_tup _) (by intro t z; cases z)
theorem LK.dT {H H' : Hp} {a : Addr} {xs : List (List Key × V)} (k : LK H H') (h : H a = some (.dT xs)) : H' a = some (.dT xs) := k _ _ h (not_dT _) (by intro t z; cases z)
theorem LK.seq {K : PySem.W.Frag} {H H' : Hp} {a : Addr} {xs : List V} (k : LK H H') (h : SqL K H a xs) : SqL K H' a xs := by
  rcases h with (h | ⟨o, h⟩) | h
  · exact .inl (.inl (k.lst h))
  · exact .inl (.inr ⟨o, k _ _ h (not_frz _ _) (by intro t z; cases z)⟩)
  · exact .inr h
theorem K2.tabs {T : List (Addr × Str)} {H H' : Hp} (k : K2 H H') (t : LamX.Tabs T H) : LamX.Tabs T H' := fun p hp => by
  obtain ⟨ps, h1, h2, h3⟩ := t p hp
  refine ⟨ps, k _ _ h1 (not_tbl _), h2, fun pos cv hc => ?_⟩
  obtain ⟨c, e1, e2⟩ := h3 pos cv hc
  exact ⟨c, e1, k _ _ e2 (not_code _ _)⟩
theorem upd_tabs {T : List (Addr × Str)} {H : Hp} {d : Addr} {o u : HO} (t : LamX.Tabs T H) (hd : H d = some u) (n1 : ∀ ps, u ≠ .tbl ps) (n2 : ∀ c q, u ≠ LamX.CodeO c q) : LamX.Tabs T (upd H d o) := fun p hp => by
  obtain ⟨ps, h1, h2, h3⟩ := t p hp
  refine ⟨ps, by rw [upd_ne (fun z => n1 ps (by rw [← z, h1] at hd; exact (Option.some.inj hd).symm))]; exact h1, h2, fun pos cv hc => ?_⟩
  obtain ⟨c, e1, e2⟩ := h3 pos cv hc
  exact ⟨c, e1, by rw [upd_ne (fun z => n2 c p.2 (by rw [← z, e2] at hd; exact (Option.some.inj hd).symm))]; exact e2⟩
theorem upd_tabsT {T : List (Addr × Str)} {H : Hp} {d : Addr} {o : HO} {k : List (List Key × V)} (t : LamX.Tabs T H) (hd : H d = some (.dT k)) : LamX.Tabs T (upd H d o) := upd_tabs t hd (by intro ps z; cases z) (by intro c q z; unfold LamX.CodeO at z; cases z)
theorem WoodAt.wk {K : PySem.W.Frag} {H H' : Hp} {L : Lay} (W : WoodAt K H L) (s : ∀ b o, H b = some o → IsP o → H' b = some o) : WoodAt K H' L :=
  ⟨s _ _ W.top (.inl ⟨_, _, _, rfl⟩), s _ _ W.dic (.inr ⟨_, rfl⟩), fun e he => ⟨s _ _ (W.say e he).o (.inl ⟨_, _, _, rfl⟩), s _ _ (W.say e he).d (.inr ⟨_, rfl⟩), (W.say e he).nd, (W.say e he).sz⟩, W.nk, W.nda, W.ndv, W.dv, W.pa, W.sz⟩
theorem WoodAt.ext {K : PySem.W.Frag} {H H' : Hp} {L : Lay} (W : WoodAt K H L) (e : LamX.ExtN H H') : WoodAt K H' L := W.wk fun b o h p => e b o h fun ps z => by
  rw [z] at p
  exact not_tbl _ p
theorem WoodAt.updT {K : PySem.W.Frag} {H : Hp} {L : Lay} {d : Addr} {o : HO} {k : List (List Key × V)} (W : WoodAt K H L) (hd : H d = some (.dT k)) : WoodAt K (upd H d o) L := W.wk fun b u h p => by
  rw [upd_ne (fun z => by rw [z, hd] at h; cases h; exact not_dT _ p)]
  exact h
theorem foot_obj {K : PySem.W.Frag} {H : Hp} {L : Lay} (W : WoodAt K H L) {b : Addr} {o : HO} (hb : b ∈ foot L) (h : H b = some o) : IsP o := by
  have q : b = L.p ∨ b = L.d ∨ b ∈ L.ents.map (·.a) ∨ b ∈ L.ents.map (·.v) := by
    unfold foot at hb
    simpa only [List.mem_cons, List.mem_append] using hb
  rcases q with rfl | rfl | q | q
  · rw [W.top] at h
    cases h
    exact .inl ⟨_, _, _, rfl⟩
  · rw [W.dic] at h
    cases h
    exact .inr ⟨_, rfl⟩
  · obtain ⟨e, he, rfl⟩ := List.mem_map.mp q
    rw [(W.say e he).o] at h
    cases h
    exact .inl ⟨_, _, _, rfl⟩
  · obtain ⟨e, he, rfl⟩ := List.mem_map.mp q
    rw [(W.say e he).d] at h
    cases h
    exact .inr ⟨_, rfl⟩
theorem Step.k2 {K : PySem.W.Frag} {H H' : Hp} {L L' : Lay} (S : Step H L H' L') (W : WoodAt K H L) : K2 H H' := fun b o h n => S.keep b o (fun hb => n (foot_obj W hb h)) h
/-- for over range(n): what comes behind the body is told by its three wishes -/
theorem forR2 {n : Int} {ta : TA} {g : TG} {tb : TS} {D : Ends} {σ : L2.St} {H : Hp} (src : ∀ R : List V → Hp → Prop, R [.int n] H → ta σ H R) (hn : n < 100000) (Pv : Nat → L2.St → Hp → Prop) (h0 : Pv 0 σ H)
    (hs : ∀ (i : Nat) σ' H' (D' : Ends), (i : Int) < n → Pv i σ' H' → (∀ σ2 H2, Pv (i + 1) σ2 H2 → D'.nx σ2 H2) → (∀ σ2 H2, Pv (i + 1) σ2 H2 → D'.ct σ2 H2) → D'.rt = D.rt → D'.bk = D.nx → g (.int i) σ' H' fun σ2 H2 => tb D' σ2 H2)
    (hd : ∀ σ' H', Pv n.toNat σ' H' → D.nx σ' H') (hl : -100000 < n := by omega) : tFor (iRng1 ta) g tb D σ H :=
  forR src hn Pv h0 (fun i σ' H' hi p => hs i σ' H' _ hi p (fun _ _ h => h) (fun _ _ h => h) rfl rfl) hd hl
theorem forL2 {α : Type} {K : PySem.W.Frag} {te0 : TE} {g : TG} {tb : TS} {D : Ends} {σ : L2.St} {H : Hp} {l : List α} (it : α → V) (src : ∀ R : VK, (∀ p H1, Same H H1 → SqL K H1 p (l.map it) → R (.ref p) H1) → te0 σ H R)
    (Pv : Addr → Nat → L2.St → Hp → Prop) (h0 : ∀ p H1, Same H H1 → SqL K H1 p (l.map it) → Pv p 0 σ H1) (hG : ∀ p i σ' H', i ≤ l.length → Pv p i σ' H' → SqL K H' p (l.map it))
    (hs : ∀ p i a σ' H' (D' : Ends), l[i]? = some a → Pv p i σ' H' → (∀ σ2 H2, Pv p (i + 1) σ2 H2 → D'.nx σ2 H2) → (∀ σ2 H2, Pv p (i + 1) σ2 H2 → D'.ct σ2 H2) → D'.rt = D.rt → D'.bk = D.nx → g (it a) σ' H' fun σ2 H2 => tb D' σ2 H2)
    (hd : ∀ p σ' H', Pv p l.length σ' H' → D.nx σ' H') : tFor (iList K te0) g tb D σ H :=
  forL it src Pv h0 hG (fun p i a σ' H' hi q => hs p i a σ' H' _ hi q (fun _ _ h => h) (fun _ _ h => h) rfl rfl) hd
/-- over the keys of a dict whose keys are tuples, under its lock -/
theorem lcT {te0 : TE} {g : TG} {tt : TT} {te : TE} {vs : List Nat} {σ : L2.St} {H : Hp} {Q : VK} {α : Type} {l : List α} {d : Addr} (kv : α → List Key × V) (f : α → Option V) (hk : H d = some (.dT (l.map kv))) (src : ∀ (H' : Hp) (R : VK), R (.ref d) H' → te0 σ H' R) (hn : l.length < sizeLine)
    (hs : ∀ a H' od q, a ∈ l → H' d = some (.frz od (.dT (l.map kv))) → H' q = some (.tup ((kv a).1.map kV)) → Turn1 f g tt te vs σ H' a (.ref q))
    (hd : ∀ D H', H D = none → Same H H' → H' D = some (.lst (l.filterMap f)) → Q (.ref D) H') : tLockE (tLc (iKeys te0) g tt te vs) σ H Q := by
  refine ⟨d, _, hk, trivial, fun od => src _ _ ⟨d, od, rfl, .inr ⟨_, upd_same, fun D hD => ?_⟩⟩⟩
  have nD : D ≠ d := fun z => by
    rw [z, upd_same] at hD
    cases hD
  have w : Walk (Itkt d od (l.map kv)) l.length (fun H => H d = some (.frz od (.dT (l.map kv)))) (fun i H x H' => H' = H ∧ ∃ (k : List Key) (v : V) (q : Addr), (l.map kv)[i]? = some (k, v) ∧ x = .ref q ∧ H q = some (.tup (k.map kV))) := by
    have w := walk_keysT (d := d) (o := od) (kvs := l.map kv)
    rw [List.length_map] at w
    exact w
  refine lc_ro l w f hn hD (fun H' s => s _ _ upd_same) (fun i a x H2 H3 ha s2 y => ?_) (fun H' s2 e => ⟨s2 _ _ upd_same, hd D _ (by rw [upd_ne nD] at hD; exact hD) (Same.lock hk s2) (by rw [upd_ne nD]; exact e)⟩)
  obtain ⟨rfl, k, v, q, hx, rfl, hq⟩ := y
  have e : (k, v) = kv a := by
    rw [List.getElem?_map, ha] at hx
    exact (Option.some.inj hx).symm
  have e1 : k = (kv a).1 := congrArg Prod.fst e
  rw [e1] at hq
  exact hs a _ od q (List.mem_of_getElem? ha) (s2 _ _ upd_same) hq
section
variable {K : PySem.W.Frag} {H : Hp} {L : Lay} {Q : VK} {E : XK} {m : Int} {r : Row}
theorem says_row (hm : sayingM L.wd (.int m) = some (m, r)) {e : Ent} (he : sayingD L (.int m) = some e) : e.row = r := by
  rw [sayingME, he] at hm
  exact congrArg Prod.snd (Option.some.inj hm)
theorem says_some (hm : sayingM L.wd (.int m) = some (m, r)) : sayingD L (.int m) ≠ none := fun z => by
  rw [sayingME, z] at hm
  cases hm
theorem use_look (W : WoodAt K H L) (hm : sayingM L.wd (.int m) = some (m, r)) (q : New (.tup [.str r.who, .int r.under, if r.struck then .non else .str r.text, .int r.time]) H Q) : spLook K [.ref L.p, .int m] H Q E :=
  ⟨L, .int m, .int m, rfl, W, .int m, fun e he p H' n s h => q p H' n s (by rw [← says_row hm he]; exact h), fun z => absurd z (says_some hm)⟩
theorem use_votesOf (W : WoodAt K H L) (hm : sayingM L.wd (.int m) = some (m, r)) (q : New (.tup [.int r.ups, .int r.downs]) H Q) : spVotesOf K [.ref L.p, .int m] H Q E :=
  ⟨L, .int m, .int m, rfl, W, .int m, fun e he p H' n s h => q p H' n s (by rw [← says_row hm he]; exact h), fun z => absurd z (says_some hm)⟩
theorem short_name {z : Str} (h : nameZ z = true) : Short (.str z) := by
  unfold nameZ at h
  simp only [Bool.and_eq_true, decide_eq_true_eq] at h
  show z.length < sizeLine
  rw [sizeLine_eq]
  omega
theorem use_standing {z : Str} (W : WoodAt K H L) (hz : nameZ z = true) (q : ∀ H', Same H H' → Q (.int (standingM L.wd z)) H') : spStanding K [.ref L.p, .str z] H Q E :=
  ⟨L, .str z, .str z, rfl, W, .str z, short_name hz, (fun h => absurd (show nameZ z = false from h) (by rw [hz]; decide)), (fun z' h _ H' s => by
    cases h
    exact q H' s)⟩
theorem dp_refu {x : Str} {p : Addr} (h : H p = some (.tup [.str "refused", .str x])) : Dp K H (.ref p) (.tuple [.str "refused", .str x]) := .tup (.inl (.inl h)) (.cons (.str _) (.cons (.str _) .nil))
theorem dp_int2 {x y : Int} {p : Addr} (h : H p = some (.tup [.int x, .int y])) : Dp K H (.ref p) (.tuple [.int x, .int y]) := .tup (.inl (.inl h)) (.cons (.int _) (.cons (.int _) .nil))
end
theorem refu_lk {H H' : Hp} (s : Same H H') : LK H H' := LK.same s
end Vw
namespace Vw
open PySem PySem.Spec PyProof.Rows L2
local macro_rules | `(tactic| walk_at "rd") => `(tactic| simp only [tSeq, tNext, tIfS, tAsg, tRet, tRetN, tDrop, tVar, tC, tOp, tUn, tTest, tB, tAnd, tOr, tNot, tAndV, tOrV, tNotV, tIf, tChain, tCB, tCons, tNil, tCall, tMeth, tMake, tFld, sFld, tTup, tLst, tTupS, tLstS, tDNewKS, tDNewTS, tTold, tCmp, t2I, tIsN, tNotN, tPar, gName, gNil, gCons, gTup, gSub, rI0, rU, rEq, rNe, tDGet, tDIn, tDNotIn, sDPut, tDNewK, tDGet1, tDGet2, tDPop1, tDPop2, tBM, tBM0, tM0, tM1, tSl, tPart, tNoPart, tBreak, tCont, tThru, L2.start, List.map_cons, List.map_nil, List.length_cons, List.length_nil, List.cons_append, List.nil_append, List.append_nil, List.replicate_succ, List.replicate_zero, Nat.reduceAdd, Nat.reduceSub, Nat.zero_add, List.getElem?_cons_zero, List.getElem?_cons_succ, List.set_cons_zero, List.set_cons_succ, wipe, cxOf_K, tYes, List.cons.injEq, and_self, Option.some.injEq, V.int.injEq, V.bl.injEq, V.ref.injEq, V.str.injEq, exists_eq_left', exists_eq_left, exists_and_left, and_assoc, true_and, and_true, if_true, if_false, ite_true, ite_false, Bool.not_true, Bool.not_false, Bool.false_eq_true, reduceIte])
/-! ### a wood of the law's own: dicts -/
structure OEnt where
  n : Int
  row : Row
  a : Addr
  v : Addr
structure OLay where
  p : Addr
  d : Addr
  ents : List OEnt
  came : Int
  clock : Int
def tellV (r : Row) : V := if r.struck = true then .non else .str r.text
def rowK (r : Row) (v : Addr) : List (Key × V) := [(Sum.inr "by", .str r.who), (Sum.inr "under", .int r.under), (Sum.inr "text", tellV r), (Sum.inr "time", .int r.time), (Sum.inr "votes", .ref v)]
def ownK (d : Addr) (c k : Int) : List (Key × V) := [(Sum.inr "rows", .ref d), (Sum.inr "came", .int c), (Sum.inr "clock", .int k)]
def oK (e : OEnt) : Key × V := (Sum.inl e.n, .ref e.a)
/-- as it is read: the dict of rows may be locked -/
structure OwnRd (H : Hp) (O : OLay) : Prop where
  top : H O.p = some (.dK (ownK O.d O.came O.clock))
  dic : Rd H O.d (.dK (O.ents.map oK))
  row : ∀ e ∈ O.ents, H e.a = some (.dK (rowK e.row e.v))
  vot : ∀ e ∈ O.ents, H e.v = some (.dK (votesK e.row.votes))
  nk : (O.ents.map (·.n)).Nodup
  ndv : ∀ e ∈ O.ents, (e.row.votes.map (·.1)).Nodup
  sz : O.ents.length < 64
  vsz : ∀ e ∈ O.ents, e.row.votes.length < 99999
def footO (O : OLay) : List Addr := O.p :: O.d :: (O.ents.map (·.a) ++ O.ents.map (·.v))
structure OwnAt (H : Hp) (O : OLay) : Prop where
  rd : OwnRd H O
  dic : H O.d = some (.dK (O.ents.map oK))
  nd : (footO O).Nodup
theorem mem_foO_a {O : OLay} {e : OEnt} (he : e ∈ O.ents) : e.a ∈ O.ents.map (·.a) ++ O.ents.map (·.v) := List.mem_append_left _ (List.mem_map.mpr ⟨e, he, rfl⟩)
theorem mem_foO_v {O : OLay} {e : OEnt} (he : e ∈ O.ents) : e.v ∈ O.ents.map (·.a) ++ O.ents.map (·.v) := List.mem_append_right _ (List.mem_map.mpr ⟨e, he, rfl⟩)
theorem OwnAt.pd {H : Hp} {O : OLay} (W : OwnAt H O) : O.p ≠ O.d := fun z => by
  have := (List.nodup_cons.mp W.nd).1
  exact this (by rw [z]; exact List.mem_cons_self)
theorem OwnAt.da {H : Hp} {O : OLay} (W : OwnAt H O) : ∀ e ∈ O.ents, e.a ≠ O.d ∧ e.v ≠ O.d ∧ e.a ≠ O.p ∧ e.v ≠ O.p := fun e he => by
  have h1 := (List.nodup_cons.mp W.nd).1
  have h2 := (List.nodup_cons.mp (List.nodup_cons.mp W.nd).2).1
  exact ⟨fun z => h2 (z ▸ mem_foO_a he), fun z => h2 (z ▸ mem_foO_v he), fun z => h1 (z ▸ List.mem_cons_of_mem _ (mem_foO_a he)), fun z => h1 (z ▸ List.mem_cons_of_mem _ (mem_foO_v he))⟩
theorem OwnAt.both {H : Hp} {O : OLay} (W : OwnAt H O) : (O.ents.map (·.a) ++ O.ents.map (·.v)).Nodup := (List.nodup_cons.mp (List.nodup_cons.mp W.nd).2).2
theorem OwnAt.nda {H : Hp} {O : OLay} (W : OwnAt H O) : (O.ents.map (·.a)).Nodup := (List.nodup_append.mp W.both).1
theorem OwnAt.ndv {H : Hp} {O : OLay} (W : OwnAt H O) : (O.ents.map (·.v)).Nodup := (List.nodup_append.mp W.both).2.1
theorem OwnAt.av {H : Hp} {O : OLay} (W : OwnAt H O) : ∀ e ∈ O.ents, ∀ e' ∈ O.ents, e.a ≠ e'.v := fun e he e' he' => (List.nodup_append.mp W.both).2.2 _ (List.mem_map.mpr ⟨e, he, rfl⟩) _ (List.mem_map.mpr ⟨e', he', rfl⟩)
def OLay.rows (O : OLay) : Rows := O.ents.map fun e => (e.n, e.row)
def OLay.wd (O : OLay) : Wd := ⟨O.rows, O.came, O.clock⟩
def findO (es : List OEnt) (n : Int) : Option OEnt := es.find? fun e => decide (e.n = n)
theorem findO_mem {es : List OEnt} {n : Int} {e : OEnt} (h : findO es n = some e) : e ∈ es ∧ e.n = n := ⟨List.mem_of_find?_eq_some h, by have := List.find?_some h; simpa using this⟩
theorem OLay.find (O : OLay) (n : Int) : findR O.rows n = (findO O.ents n).map (·.row) := by
  unfold findR findO OLay.rows
  rw [List.find?_map]
  cases q : O.ents.find? ((fun p : Int × Row => decide (p.1 = n)) ∘ fun e : OEnt => (e.n, e.row)) with
  | none =>
    have : O.ents.find? (fun e => decide (e.n = n)) = none := q
    rw [this]
    rfl
  | some e =>
    have : O.ents.find? (fun e => decide (e.n = n)) = some e := q
    rw [this]
    rfl
theorem OLay.ent {O : OLay} {n : Int} {r : Row} (h : findR O.rows n = some r) : ∃ e, findO O.ents n = some e ∧ e.row = r := by
  rw [O.find] at h
  cases q : findO O.ents n with
  | none => rw [q] at h; cases h
  | some e => rw [q] at h; exact ⟨e, rfl, Option.some.inj h⟩
theorem valV_oK {es : List OEnt} {n : Int} : valV (es.map oK) (Sum.inl n) = (findO es n).map fun e => V.ref e.a := by
  unfold valV findO
  rw [List.find?_map]
  have e : ((fun kv : Key × V => decide (kv.1 = Sum.inl n)) ∘ oK) = fun e : OEnt => decide (e.n = n) := by
    funext e
    show decide (Sum.inl e.n = (Sum.inl n : Key)) = decide (e.n = n)
    by_cases h : e.n = n
    · rw [decide_eq_true h, decide_eq_true (by rw [h])]
    · rw [decide_eq_false h, decide_eq_false (fun z => h (Sum.inl.inj z))]
  rw [e]
  cases es.find? fun e => decide (e.n = n) <;> rfl
theorem inr_eq {a b : String} : ((Sum.inr (Str.ofString a) : Key) = Sum.inr (Str.ofString b)) = (a = b) := by
  rw [← ofString_inj]
  exact propext ⟨Sum.inr.inj, fun h => by rw [h]⟩
section
variable {H : Hp} {O : OLay} {n : Int} {e : OEnt}
theorem g_rows (h : H O.p = some (.dK (ownK O.d O.came O.clock))) : DGet H O.p (.str (Str.ofString "rows")) (some (.ref O.d)) := .inl ⟨_, Sum.inr "rows", .inl h, rfl, by simp [valV, ownK, List.find?_cons, ofString_inj]⟩
theorem g_came (h : H O.p = some (.dK (ownK O.d O.came O.clock))) : DGet H O.p (.str (Str.ofString "came")) (some (.int O.came)) := .inl ⟨_, Sum.inr "came", .inl h, rfl, by simp [valV, ownK, List.find?_cons, ofString_inj]⟩
theorem g_clock (h : H O.p = some (.dK (ownK O.d O.came O.clock))) : DGet H O.p (.str (Str.ofString "clock")) (some (.int O.clock)) := .inl ⟨_, Sum.inr "clock", .inl h, rfl, by simp [valV, ownK, List.find?_cons, ofString_inj]⟩
theorem g_by {r : Row} {a v : Addr} (h : H a = some (.dK (rowK r v))) : DGet H a (.str (Str.ofString "by")) (some (.str r.who)) := .inl ⟨_, Sum.inr "by", .inl h, rfl, by simp [valV, rowK, List.find?_cons, ofString_inj]⟩
theorem g_under {r : Row} {a v : Addr} (h : H a = some (.dK (rowK r v))) : DGet H a (.str (Str.ofString "under")) (some (.int r.under)) := .inl ⟨_, Sum.inr "under", .inl h, rfl, by simp [valV, rowK, List.find?_cons, ofString_inj]⟩
theorem g_text {r : Row} {a v : Addr} (h : H a = some (.dK (rowK r v))) : DGet H a (.str (Str.ofString "text")) (some (tellV r)) := .inl ⟨_, Sum.inr "text", .inl h, rfl, by simp [valV, rowK, List.find?_cons, ofString_inj]⟩
theorem g_time {r : Row} {a v : Addr} (h : H a = some (.dK (rowK r v))) : DGet H a (.str (Str.ofString "time")) (some (.int r.time)) := .inl ⟨_, Sum.inr "time", .inl h, rfl, by simp [valV, rowK, List.find?_cons, ofString_inj]⟩
theorem g_votes {r : Row} {a v : Addr} (h : H a = some (.dK (rowK r v))) : DGet H a (.str (Str.ofString "votes")) (some (.ref v)) := .inl ⟨_, Sum.inr "votes", .inl h, rfl, by simp [valV, rowK, List.find?_cons, ofString_inj]⟩
theorem OwnRd.at (W : OwnRd H O) (h : findO O.ents n = some e) : DGet H O.d (.int n) (some (.ref e.a)) := .inl ⟨_, Sum.inl n, W.dic, rfl, by rw [valV_oK, h]; rfl⟩
theorem OwnRd.isD (W : OwnRd H O) : IsD H O.d := .inl ⟨_, W.dic⟩
theorem OwnRd.same {H' : Hp} (W : OwnRd H O) (s : Same H H') : OwnRd H' O := ⟨s _ _ W.top, W.dic.elim (fun h => .inl (s _ _ h)) (fun ⟨o, h⟩ => .inr ⟨o, s _ _ h⟩), fun e he => s _ _ (W.row e he), fun e he => s _ _ (W.vot e he), W.nk, W.ndv, W.sz, W.vsz⟩
theorem OwnAt.same {H' : Hp} (W : OwnAt H O) (s : Same H H') : OwnAt H' O := ⟨W.rd.same s, s _ _ W.dic, W.nd⟩
/-- under the lock of the rows -/
theorem OwnAt.lock {H' : Hp} {od : Obj} (W : OwnAt H O) (k : ∀ b o, b ≠ O.d → H b = some o → H' b = some o) (hd : H' O.d = some (.frz od (.dK (O.ents.map oK)))) : OwnRd H' O :=
  ⟨k _ _ W.pd W.rd.top, .inr ⟨od, hd⟩, fun e he => k _ _ (W.da e he).1 (W.rd.row e he), fun e he => k _ _ (W.da e he).2.1 (W.rd.vot e he), W.rd.nk, W.rd.ndv, W.rd.sz, W.rd.vsz⟩
end
section
variable {P : Program} {w : World} {K : PySem.W.Frag} {mg : Str → Option Value} {base : Heap}
def spOwnD : Sp := fun vs H Q _ => vs = [] ∧ ∀ p d H', H p = none → H d = none → Same H H' → OwnAt H' ⟨p, d, [], 0, 0⟩ → Q (.ref p) H'
abbrev N__law_own : List Str := []
theorem sc__law_own : FnScope N__law_own [] (defScope s__law_own) := ⟨rfl, rfl, rfl, by decide +kernel, rfl, by decide +kernel, by decide +kernel⟩
theorem be__law_own : BindEq "_law_own" "_law_own" s__law_own [] := fun _ _ _ _ _ _ us hl => match us, hl with | [], _ => rfl
theorem D__law_own (T : Txt K mg base) : Def P w K mg base 1 (He.ga K "_law_own") [] spOwnD := by
  refine mk_def T.f__law_own sc__law_own be__law_own (fun vs H Q E h => ?_) (fun cdv A outer s H vs Q E hr h => ?_)
  · obtain ⟨rfl, _⟩ := h
    rfl
  · obtain ⟨rfl, k⟩ := h
    refine ⟨_, (pss_one (ps_ret (pe_disp (pps_cons pe_str pe_dnewKS (pps_cons pe_str pe_int (pps_cons pe_str pe_int pps_nil))) (by rfl) (by rfl) (fun z => by cases z) (by decide)))), ?_⟩
    walk_at "rd"
    intro p np
    simp only [tPairs, tC, tDNewKS]
    intro d H2 nd s2 e2
    have ndp : d ≠ p := fun z => by
      rw [z, upd_same] at nd
      cases nd
    rw [upd_ne ndp] at nd
    refine ⟨s2 _ _ upd_same, ownK d 0 0, rfl, by show 3 ≤ 15; decide, ?_⟩
    have em : mergeK [] (ownK d 0 0) = ownK d 0 0 := by simp [mergeK, ownK, putK, ofString_inj]
    rw [em]
    have s3 : Same H H2 := fun b o e => s2 b o (by rw [upd_ne (ne_of_none e np)]; exact e)
    have e3 : upd H2 p (.dK (ownK d 0 0)) d = some (.dK []) := by rw [upd_ne ndp]; exact e2
    exact k p d _ np nd (s3.over np) ⟨⟨upd_same, .inl e3, (fun e he => nomatch he), (fun e he => nomatch he), List.Pairwise.nil, (fun e he => nomatch he), by show 0 < 64; decide, (fun e he => nomatch he)⟩, e3, by show [p, d].Nodup; simp [Ne.symm ndp]⟩
def spAbove (K : PySem.W.Frag) : Sp := fun vs H Q _ => ∃ (O : OLay) (n : Int), vs = [.ref O.p, .int n] ∧ OwnRd H O ∧ Wf O.rows ∧ (n = 0 ∨ ∃ r, findR O.rows n = some r) ∧ (aboveR O.rows n).length ≤ 8 ∧ New (.lst ((aboveR O.rows n).map V.int)) H Q
abbrev N__law_above : List Str := ["own", "number", "found"]
theorem sc__law_above : FnScope N__law_above ["own", "number"] (defScope s__law_above) := ⟨rfl, rfl, rfl, by decide +kernel, rfl, by decide +kernel, by decide +kernel⟩
theorem be__law_above : BindEq "_law_above" "_law_above" s__law_above ["own", "number"] := fun _ _ _ _ _ _ us hl => match us, hl with | [_, _], _ => rfl
theorem D__law_above (T : Txt K mg base) : Def P w K mg base 1 (He.ga K "_law_above") ["own", "number"] (spAbove K) := by
  refine mk_def T.f__law_above sc__law_above be__law_above (fun vs H Q E h => ?_) (fun cdv A outer s H vs Q E hr h => ?_)
  · obtain ⟨O, n, rfl, _⟩ := h
    rfl
  · obtain ⟨O, n, rfl, W, F, hn, h8, k⟩ := h
    refine ⟨_, (pss_cons (ps_set (i := 2) sc__law_above.nd rfl (Or.inl rfl) (pe_lstS pa_nil))
      (pss_cons (ps_while ownE (pt_cmpR op_ne (pv 1) pe_int (nomark _)) (pss_cons (ps_set (i := 1) sc__law_above.nd rfl (Or.inl rfl) (pe_dg (pe_dg (pe_dg (pv 0) pe_str (by exact hu_of hr)) (pv 1) (by exact hu_of hr)) pe_str (by exact hu_of hr)))
      (pss_one (ps_expr (pe_bm PySem.F.plainAttrs_list PySem.F.slot_list_append PySem.F.type_list_append mt_append (pv 2) (pa_cons (pv 1) pa_nil))))))
      (pss_one (ps_ret (pv 2))))), ?_⟩
    walk_at "rd"
    refine ⟨Nat.zero_le _, fun l H1 n1 s1 e1 => ?_⟩
    refine ⟨fun m σ H' => ∃ (i : Int) (pre : List Int), σ = [some (.ref O.p), some (.int i), some (.ref l)] ∧ m = i.toNat ∧ Same H H' ∧ (i = 0 ∨ ∃ r, findR O.rows i = some r) ∧ aboveR O.rows n = pre ++ aboveR O.rows i ∧ H' l = some (.lst (pre.map V.int)), ⟨_, n, [], rfl, rfl, s1, hn, rfl, e1⟩, ?_⟩
    rintro m σ H' ⟨i, pre, rfl, rfl, s2, hi, ea, el⟩
    walk_at "rd"
    refine ⟨rfl, ?_⟩
    by_cases h0 : i = 0
    · rw [decide_eq_true h0]
      refine iteF (k l H' n1 s2 ?_)
      rw [ea, h0, above_zero, List.append_nil]
      exact el
    · rw [decide_eq_false h0]
      obtain ⟨r, hr1⟩ := hi.resolve_left h0
      obtain ⟨e, he, rfl⟩ := OLay.ent hr1
      have W2 := W.same s2
      have ab := F.above hr1
      obtain ⟨_, u1, u2, u3⟩ := F.up hr1
      have pl : pre.length ≤ 8 := by
        have := congrArg List.length ea
        rw [List.length_append] at this
        omega
      refine iteT ⟨_, fun _ _ h => h, _, g_rows W2.top, _, rfl, _, W2.at he, _, rfl, _, g_under (W2.row e (findO_mem he).1), .inl ⟨rfl, _, SqL.of el⟩, l, _, _, rfl, rfl, el, by rw [List.length_map, sizeLine_eq]; omega, e.row.under.toNat, by omega, e.row.under, rfl, rfl, s2.over n1, F.has _ (findR_mem hr1), pre ++ [e.row.under], ?_, ?_⟩
      · rw [ea, ab, List.append_assoc]
        rfl
      · rw [upd_same, List.map_append]
        rfl
theorem all_flat (l : List Int) : (l.map V.int).all flatV = true := by
  rw [List.all_map]
  exact List.all_eq_true.mpr fun _ _ => rfl
theorem inV_int (n : Int) (l : List Int) : inV (.int n) (l.map V.int) = decide (n ∈ l) := by
  unfold inV
  rw [List.any_map]
  by_cases h : n ∈ l
  · rw [decide_eq_true h]
    exact List.any_eq_true.mpr ⟨n, h, by simp [eqV]⟩
  · rw [decide_eq_false h, List.any_eq_false]
    intro x hx z
    have e : (x == n) = true := z
    rw [beq_iff_eq] at e
    exact h (e ▸ hx)
def spBeneath (K : PySem.W.Frag) : Sp := fun vs H Q _ => ∃ (O : OLay) (n : Int), vs = [.ref O.p, .int n] ∧ OwnAt H O ∧ Wf O.rows ∧ (∀ p ∈ O.rows, (aboveR O.rows p.1).length ≤ 8) ∧ New (.lst ((sortI (beneathR O.rows n)).map V.int)) H Q
theorem beneath_ents (O : OLay) (n : Int) : O.ents.filterMap (fun e => if n ∈ aboveR O.rows e.n then some (V.int e.n) else none) = (beneathR O.rows n).map V.int := by
  unfold beneathR
  rw [filterMap_if]
  unfold OLay.rows
  rw [List.map_map, List.filter_map, List.map_map]
  rfl
abbrev N__law_beneath : List Str := ["own", "number", "one"]
theorem sc__law_beneath : FnScope N__law_beneath ["own", "number"] (defScope s__law_beneath) := ⟨rfl, rfl, rfl, by decide +kernel, rfl, by decide +kernel, by decide +kernel⟩
theorem be__law_beneath : BindEq "_law_beneath" "_law_beneath" s__law_beneath ["own", "number"] := fun _ _ _ _ _ _ us hl => match us, hl with | [_, _], _ => rfl
theorem D__law_beneath (T : Txt K mg base) : Def P w K mg base 3 (He.ga K "_law_beneath") ["own", "number"] (spBeneath K) := by
  refine mk_def T.f__law_beneath sc__law_beneath be__law_beneath (fun vs H Q E h => ?_) (fun cdv A outer s H vs Q E hr h => ?_)
  · obtain ⟨O, n, rfl, _⟩ := h
    rfl
  · obtain ⟨O, n, rfl, W, F, h8, k⟩ := h
    refine ⟨_, (pss_one (ps_ret (pe_callB cr_sortedN (by rfl) T.b_sorted (by decide +kernel) (pa_cons (pe_lock (pe_lc (own := [("one", 2)]) (g := gName 2) rfl sc__law_beneath.nd (pi_keys (pe_dg (pv 0) pe_str (by exact hu_of hr))) (blkOk_by (N := N__law_beneath) (sc := defScope s__law_beneath) (by decide +kernel)) (fun _ _ _ _ _ => by exact (pg_name (i := 2) sc__law_beneath.nd rfl (Or.inl rfl))) (fun _ _ _ _ _ => by exact (pts_one (pt_cmpR (op_in_seqK K) (pv 1) (pe_cd (D__law_above T) (by exact hr.mono (by first | decide | omega)) T.g__law_above passF (pa_cons (pv 0) (pa_cons (pv 2) pa_nil))) rfl))) (fun _ _ _ _ _ => by exact (pv 2)))) pa_nil)))), ?_⟩
    walk_at "rd"
    refine lcK (l := O.ents) oK (fun e => if n ∈ aboveR O.rows e.n then some (V.int e.n) else none) W.dic (fun H' R kp h => ?_) (by rw [sizeLine_eq]; have := W.rd.sz; omega) (fun e H' od he kp hd N1 N0 h1 h0 => ?_) (fun D H' nD s1 eD => ?_)
    · walk_at "rd"
      exact ⟨_, g_rows (kp _ _ W.pd W.rd.top), h⟩
    · walk_at "rd"
      have me : (e.n, e.row) ∈ O.rows := List.mem_map.mpr ⟨e, he, rfl⟩
      refine ⟨O, rfl, e.n, rfl, W.lock kp hd, F, .inr ⟨_, findR_of F.nk me⟩, h8 _ me, fun l H2 n2 s2 e2 => ⟨l, _, rfl, .inl (SqL.of e2), rfl, all_flat _, _, rfl, ?_⟩⟩
      rw [inV_int]
      by_cases hm : n ∈ aboveR O.rows e.n
      · rw [decide_eq_true hm]
        exact iteT (h1 _ _ s2 (if_pos hm))
      · rw [decide_eq_false hm]
        exact iteF (h0 _ s2 (if_neg hm))
    · rw [beneath_ents] at eD
      have ln : (beneathR O.rows n).length < 64 := by
        have h1 : (beneathR O.rows n).length ≤ (O.rows.map (·.1)).length := List.length_filter_le _ _
        rw [List.length_map] at h1
        unfold OLay.rows at h1
        rw [List.length_map] at h1
        have := W.rd.sz
        unfold OLay.rows
        omega
      exact ⟨D, _, rfl, SqL.of eD, ln, fun ns' hp hs p H2 n2 s2 e2 => k p H2 (s1.free n2) (s1.trans s2) (by rw [← sortI_eq hp hs]; exact e2)⟩
def spPoints (K : PySem.W.Frag) : Sp := fun vs H Q _ => ∃ (a v : Addr) (r : Row), vs = [.ref a] ∧ H a = some (.dK (rowK r v)) ∧ H v = some (.dK (votesK r.votes)) ∧ (r.votes.map (·.1)).Nodup ∧ a ≠ v ∧ r.votes.length < 99999 ∧ ∀ H', Same H H' → Q (.int (r.votes.map (·.2)).sum) H'
abbrev N__law_points : List Str := ["row", "name"]
theorem sc__law_points : FnScope N__law_points ["row"] (defScope s__law_points) := ⟨rfl, rfl, rfl, by decide +kernel, rfl, by decide +kernel, by decide +kernel⟩
theorem be__law_points : BindEq "_law_points" "_law_points" s__law_points ["row"] := fun _ _ _ _ _ _ us hl => match us, hl with | [_], _ => rfl
theorem D__law_points (T : Txt K mg base) : Def P w K mg base 1 (He.ga K "_law_points") ["row"] (spPoints K) := by
  refine mk_def T.f__law_points sc__law_points be__law_points (fun vs H Q E h => ?_) (fun cdv A outer s H vs Q E hr h => ?_)
  · obtain ⟨a, v, r, rfl, _⟩ := h
    rfl
  · obtain ⟨a, v, r, rfl, ha, hv, nd, nav, sz, k⟩ := h
    refine ⟨_, (pss_one (ps_ret (pe_callB (cr_sum rfl) (by rfl) T.b_sum (by decide +kernel) (pa_cons (pe_lock (pe_lc (own := [("name", 1)]) (g := gName 1) rfl sc__law_points.nd (pi_keys (pe_dg (pv 0) pe_str (by exact hu_of hr))) (blkOk_by (N := N__law_points) (sc := defScope s__law_points) (by decide +kernel)) (fun _ _ _ _ _ => by exact (pg_name (i := 1) sc__law_points.nd rfl (Or.inl rfl))) (fun _ _ _ _ _ => pts_nil) (fun _ _ _ _ _ => by exact (pe_dg (pe_dg (pv 0) pe_str (by exact hu_of hr)) (pv 1) (by exact hu_of hr))))) pa_nil)))), ?_⟩
    walk_at "rd"
    refine lcK (l := r.votes) voteK (fun p => some (.int p.2)) hv (fun H' R kp h => ?_) (by rw [sizeLine_eq]; omega) (fun e H' od he kp hd N1 N0 h1 h0 => ?_) (fun D H' nD s1 eD => ?_)
    · walk_at "rd"
      exact ⟨_, g_votes (kp _ _ nav ha), h⟩
    · walk_at "rd"
      exact ⟨_, g_votes (kp _ _ nav ha), _, rfl, _, .inl ⟨_, Sum.inr e.1, .inr ⟨od, hd⟩, rfl, (votes_at nd he).symm⟩, h1 _ _ (Same.refl _) rfl⟩
    · have el : r.votes.filterMap (fun p => some (V.int p.2)) = (r.votes.map (·.2)).map V.int := by
        rw [List.filterMap_eq_map', List.map_map]
        rfl
      rw [el] at eD
      exact ⟨D, _, rfl, SqL.of eD, k H' s1⟩
end
end Vw
namespace Vw
open PySem PySem.Spec PyProof.Rows L2
local macro_rules | `(tactic| walk_at "rd") => `(tactic| simp only [tSeq, tNext, tIfS, tAsg, tRet, tRetN, tDrop, tVar, tC, tOp, tUn, tTest, tB, tAnd, tOr, tNot, tAndV, tOrV, tNotV, tIf, tChain, tCB, tCons, tNil, tCall, tMeth, tMake, tFld, sFld, tTup, tLst, tTupS, tLstS, tDNewKS, tDNewTS, tTold, tCmp, t2I, tIsN, tNotN, tPar, gName, gNil, gCons, gTup, gSub, rI0, rU, rEq, rNe, tDGet, tDIn, tDNotIn, sDPut, tDNewK, tDGet1, tDGet2, tDPop1, tDPop2, tBM, tBM0, tM0, tM1, tSl, tPart, tNoPart, tBreak, tCont, tThru, L2.start, List.map_cons, List.map_nil, List.length_cons, List.length_nil, List.cons_append, List.nil_append, List.append_nil, List.replicate_succ, List.replicate_zero, Nat.reduceAdd, Nat.reduceSub, Nat.zero_add, List.getElem?_cons_zero, List.getElem?_cons_succ, List.set_cons_zero, List.set_cons_succ, wipe, cxOf_K, tYes, List.cons.injEq, and_self, Option.some.injEq, V.int.injEq, V.bl.injEq, V.ref.injEq, V.str.injEq, exists_eq_left', exists_eq_left, exists_and_left, and_assoc, true_and, and_true, if_true, if_false, ite_true, ite_false, Bool.not_true, Bool.not_false, Bool.false_eq_true, reduceIte])
/-! ### the own wood is changed -/
structure OStep (H : Hp) (O : OLay) (H' : Hp) (O' : OLay) : Prop where
  p : O'.p = O.p
  keep : ∀ b o, b ∉ footO O → H b = some o → H' b = some o
  new : ∀ b ∈ footO O', b ∈ footO O ∨ H b = none
theorem OStep.same {H H' : Hp} {O : OLay} (s : Same H H') : OStep H O H' O := ⟨rfl, fun b o _ e => s b o e, fun b hb => .inl hb⟩
theorem OStep.trans {H H1 H2 : Hp} {O O1 O2 : OLay} (a : OStep H O H1 O1) (b : OStep H1 O1 H2 O2) : OStep H O H2 O2 := by
  refine ⟨b.p.trans a.p, fun c o hc e => b.keep c o (fun h => ?_) (a.keep c o hc e), fun c hc => ?_⟩
  · rcases a.new c h with z | z
    · exact hc z
    · rw [z] at e
      cases e
  · rcases b.new c hc with z | z
    · exact a.new c z
    · by_cases h : c ∈ footO O
      · exact .inl h
      · right
        cases q : H c with
        | none => rfl
        | some o =>
          have := a.keep c o h q
          rw [z] at this
          cases this
def setO (es : List OEnt) (n : Int) (r : Row) : List OEnt := es.map fun e => if e.n = n then { e with row := r } else e
theorem setO_map {β : Type} (f : OEnt → β) (hf : ∀ e r, f { e with row := r } = f e) (es : List OEnt) (n : Int) (r : Row) : (setO es n r).map f = es.map f := by
  unfold setO
  rw [List.map_map]
  refine List.map_congr_left fun e _ => ?_
  show f (if e.n = n then { e with row := r } else e) = f e
  split
  · exact hf e r
  · rfl
theorem mem_setO {es : List OEnt} {n : Int} {r : Row} {e : OEnt} (h : e ∈ setO es n r) : ∃ e0 ∈ es, e.a = e0.a ∧ e.v = e0.v ∧ e.n = e0.n ∧ ((e0.n = n ∧ e.row = r) ∨ (e0.n ≠ n ∧ e = e0)) := by
  obtain ⟨e0, h0, rfl⟩ := List.mem_map.mp h
  refine ⟨e0, h0, ?_⟩
  by_cases c : e0.n = n
  · simp [c]
  · simp [c]
theorem footO_set (O : OLay) (n : Int) (r : Row) : footO { O with ents := setO O.ents n r } = footO O := by
  unfold footO
  show O.p :: O.d :: ((setO O.ents n r).map (·.a) ++ (setO O.ents n r).map (·.v)) = _
  rw [setO_map _ (fun _ _ => rfl), setO_map _ (fun _ _ => rfl)]
theorem rows_setO (O : OLay) (n : Int) (r : Row) : ({ O with ents := setO O.ents n r } : OLay).rows = setR O.rows n r := by
  unfold OLay.rows setO setR
  rw [List.map_map, List.map_map]
  refine List.map_congr_left fun e _ => ?_
  show ((if e.n = n then { e with row := r } else e).n, (if e.n = n then { e with row := r } else e).row) = if e.n = n then (n, r) else (e.n, e.row)
  by_cases c : e.n = n
  · rw [if_pos c, if_pos c, ← c]
  · rw [if_neg c, if_neg c]
/-- a row is another one: its dict and its votes may be written -/
theorem OwnAt.set {H H' : Hp} {O : OLay} (W : OwnAt H O) {e : OEnt} (he : e ∈ O.ents) {r : Row} (h1 : H' e.a = some (.dK (rowK r e.v))) (h2 : H' e.v = some (.dK (votesK r.votes))) (nd : (r.votes.map (·.1)).Nodup) (sz : r.votes.length < 99999)
    (k : ∀ b o, b ≠ e.a → b ≠ e.v → H b = some o → H' b = some o) : OwnAt H' { O with ents := setO O.ents e.n r } := by
  have hda := W.da e he
  have d' : H' O.d = some (.dK ((setO O.ents e.n r).map oK)) := by
    rw [setO_map oK (fun _ _ => rfl)]
    exact k _ _ hda.1.symm hda.2.1.symm W.dic
  have two : ∀ e' ∈ setO O.ents e.n r, H' e'.a = some (.dK (rowK e'.row e'.v)) ∧ H' e'.v = some (.dK (votesK e'.row.votes)) ∧ (e'.row.votes.map (·.1)).Nodup ∧ e'.row.votes.length < 99999 := fun e' h' => by
    obtain ⟨e0, h0, ha, hv, hn, h⟩ := mem_setO h'
    rcases h with ⟨hn0, hr⟩ | ⟨hn0, rfl⟩
    · have : e0 = e := inj_nodup W.rd.nk h0 he hn0
      subst this
      rw [ha, hv, hr]
      exact ⟨h1, h2, nd, sz⟩
    · have na : e'.a ≠ e.a := fun z => hn0 (congrArg OEnt.n (inj_nodup W.nda h0 he z))
      have nv : e'.v ≠ e.v := fun z => hn0 (congrArg OEnt.n (inj_nodup W.ndv h0 he z))
      exact ⟨k _ _ na (W.av e' h0 e he) (W.rd.row e' h0), k _ _ (fun z => W.av e he e' h0 z.symm) nv (W.rd.vot e' h0), W.rd.ndv e' h0, W.rd.vsz e' h0⟩
  refine ⟨⟨k _ _ hda.2.2.1.symm hda.2.2.2.symm W.rd.top, .inl d', fun e' h' => (two e' h').1, fun e' h' => (two e' h').2.1, ?_, fun e' h' => (two e' h').2.2.1, ?_, fun e' h' => (two e' h').2.2.2⟩, d', by rw [footO_set]; exact W.nd⟩
  · show ((setO O.ents e.n r).map (·.n)).Nodup
    rw [setO_map _ (fun _ _ => rfl)]
    exact W.rd.nk
  · show (setO O.ents e.n r).length < 64
    unfold setO
    rw [List.length_map]
    exact W.rd.sz
theorem OStep.set {H H' : Hp} {O : OLay} {e : OEnt} (he : e ∈ O.ents) {r : Row} (k : ∀ b o, b ≠ e.a → b ≠ e.v → H b = some o → H' b = some o) : OStep H O H' { O with ents := setO O.ents e.n r } :=
  ⟨rfl, fun b o hb q => k b o (fun z => hb (z ▸ List.mem_cons_of_mem _ (List.mem_cons_of_mem _ (mem_foO_a he)))) (fun z => hb (z ▸ List.mem_cons_of_mem _ (List.mem_cons_of_mem _ (mem_foO_v he)))) q, fun b hb => .inl (by rw [footO_set] at hb; exact hb)⟩
/-- the last number, the time -/
theorem OwnAt.top {H H' : Hp} {O : OLay} (W : OwnAt H O) {c k : Int} (h : H' O.p = some (.dK (ownK O.d c k))) (kp : ∀ b o, b ≠ O.p → H b = some o → H' b = some o) : OwnAt H' { O with came := c, clock := k } :=
  ⟨⟨h, .inl (kp _ _ W.pd.symm W.dic), fun e he => kp _ _ (W.da e he).2.2.1 (W.rd.row e he), fun e he => kp _ _ (W.da e he).2.2.2 (W.rd.vot e he), W.rd.nk, W.rd.ndv, W.rd.sz, W.rd.vsz⟩, kp _ _ W.pd.symm W.dic, W.nd⟩
theorem OStep.top {H H' : Hp} {O : OLay} {c k : Int} (kp : ∀ b o, b ≠ O.p → H b = some o → H' b = some o) : OStep H O H' { O with came := c, clock := k } :=
  ⟨rfl, fun b o hb e => kp b o (fun z => hb (z ▸ List.mem_cons_self)) e, fun b hb => .inl hb⟩
/-- one entry goes -/
theorem OwnAt.pop {H H' : Hp} {O : OLay} (W : OwnAt H O) (n : Int) (h : H' O.d = some (.dK (dropK (O.ents.map oK) (Sum.inl n)))) (kp : ∀ b o, b ≠ O.d → H b = some o → H' b = some o) : OwnAt H' { O with ents := O.ents.filter fun e => decide (e.n ≠ n) } := by
  have sub : (O.ents.filter fun e => decide (e.n ≠ n)).Sublist O.ents := List.filter_sublist
  have hd : H' O.d = some (.dK ((O.ents.filter fun e => decide (e.n ≠ n)).map oK)) := by
    rw [h]
    unfold dropK
    rw [List.filter_map]
    have e : ((fun kv : Key × V => decide (kv.1 ≠ Sum.inl n)) ∘ oK) = fun e : OEnt => decide (e.n ≠ n) := by
      funext e
      show decide ((Sum.inl e.n : Key) ≠ Sum.inl n) = decide (e.n ≠ n)
      by_cases c : e.n = n
      · simp [c]
      · simp [c]
    rw [e]
  exact ⟨⟨kp _ _ W.pd W.rd.top, .inl hd, fun e he => kp _ _ (W.da e (sub.mem he)).1 (W.rd.row e (sub.mem he)), fun e he => kp _ _ (W.da e (sub.mem he)).2.1 (W.rd.vot e (sub.mem he)), W.rd.nk.sublist (sub.map _), fun e he => W.rd.ndv e (sub.mem he), Nat.lt_of_le_of_lt sub.length_le W.rd.sz, fun e he => W.rd.vsz e (sub.mem he)⟩, hd,
    W.nd.sublist (List.Sublist.cons₂ _ (List.Sublist.cons₂ _ ((sub.map _).append (sub.map _))))⟩
theorem OStep.pop {H H' : Hp} {O : OLay} (n : Int) (kp : ∀ b o, b ≠ O.d → H b = some o → H' b = some o) : OStep H O H' { O with ents := O.ents.filter fun e => decide (e.n ≠ n) } := by
  have sub : (O.ents.filter fun e => decide (e.n ≠ n)).Sublist O.ents := List.filter_sublist
  exact ⟨rfl, fun b o hb e => kp b o (fun z => hb (z ▸ List.mem_cons_of_mem _ List.mem_cons_self)) e, fun b hb => .inl ((List.Sublist.cons₂ _ (List.Sublist.cons₂ _ ((sub.map _).append (sub.map _)))).mem hb)⟩
theorem rows_pop (O : OLay) (n : Int) : ({ O with ents := O.ents.filter fun e => decide (e.n ≠ n) } : OLay).rows = dropR O.rows n := by
  unfold OLay.rows dropR
  rw [List.filter_map]
  rfl
/-- one more -/
theorem OwnAt.put {H H' : Hp} {O : OLay} (W : OwnAt H O) {n : Int} {a v : Addr} {r : Row} (ha : H a = none) (hv : H v = none) (nav : a ≠ v) (hn : ∀ e ∈ O.ents, e.n ≠ n) (h1 : H' a = some (.dK (rowK r v))) (h2 : H' v = some (.dK (votesK r.votes))) (nd : (r.votes.map (·.1)).Nodup) (vz : r.votes.length < 99999)
    (kp : ∀ b o, b ≠ O.d → H b = some o → H' b = some o) (hd : H' O.d = some (.dK (O.ents.map oK ++ [oK ⟨n, r, a, v⟩]))) (sz : O.ents.length + 1 < 64) : OwnAt H' { O with ents := O.ents ++ [⟨n, r, a, v⟩] } := by
  have hd' : H' O.d = some (.dK ((O.ents ++ [(⟨n, r, a, v⟩ : OEnt)]).map oK)) := by
    rw [List.map_append]
    exact hd
  have two : ∀ e ∈ O.ents ++ [(⟨n, r, a, v⟩ : OEnt)], H' e.a = some (.dK (rowK e.row e.v)) ∧ H' e.v = some (.dK (votesK e.row.votes)) ∧ (e.row.votes.map (·.1)).Nodup ∧ e.row.votes.length < 99999 := fun e he => by
    rcases List.mem_append.mp he with he | he
    · exact ⟨kp _ _ (W.da e he).1 (W.rd.row e he), kp _ _ (W.da e he).2.1 (W.rd.vot e he), W.rd.ndv e he, W.rd.vsz e he⟩
    · cases List.mem_singleton.mp he
      exact ⟨h1, h2, nd, vz⟩
  have live : ∀ b ∈ footO O, ∃ o, H b = some o := fun b hb => by
    have q : b = O.p ∨ b = O.d ∨ b ∈ O.ents.map (·.a) ∨ b ∈ O.ents.map (·.v) := by
      unfold footO at hb
      simpa only [List.mem_cons, List.mem_append] using hb
    rcases q with rfl | rfl | q | q
    · exact ⟨_, W.rd.top⟩
    · exact ⟨_, W.dic⟩
    · obtain ⟨e, he, rfl⟩ := List.mem_map.mp q
      exact ⟨_, W.rd.row e he⟩
    · obtain ⟨e, he, rfl⟩ := List.mem_map.mp q
      exact ⟨_, W.rd.vot e he⟩
  have no : ∀ {x : Addr}, H x = none → x ∉ footO O := fun {x} hx hm => by
    obtain ⟨o, ho⟩ := live x hm
    rw [hx] at ho
    cases ho
  refine ⟨⟨kp _ _ W.pd W.rd.top, .inl hd', fun e he => (two e he).1, fun e he => (two e he).2.1, ?_, fun e he => (two e he).2.2.1, ?_, fun e he => (two e he).2.2.2⟩, hd', ?_⟩
  · show ((O.ents ++ [(⟨n, r, a, v⟩ : OEnt)]).map (·.n)).Nodup
    rw [List.map_append]
    refine nd_snoc W.rd.nk fun m => ?_
    obtain ⟨e, he, q⟩ := List.mem_map.mp m
    exact hn e he q
  · show (O.ents ++ [_]).length < 64
    rw [List.length_append]
    exact sz
  · have perm : (footO { O with ents := O.ents ++ [⟨n, r, a, v⟩] }).Perm (a :: v :: footO O) := by
      unfold footO
      show (O.p :: O.d :: ((O.ents ++ [(⟨n, r, a, v⟩ : OEnt)]).map (·.a) ++ (O.ents ++ [(⟨n, r, a, v⟩ : OEnt)]).map (·.v))).Perm _
      rw [List.map_append, List.map_append]
      show (O.p :: O.d :: ((O.ents.map (·.a) ++ [a]) ++ (O.ents.map (·.v) ++ [v]))).Perm _
      have p1 : ((O.ents.map (·.a) ++ [a]) ++ (O.ents.map (·.v) ++ [v])).Perm (a :: v :: (O.ents.map (·.a) ++ O.ents.map (·.v))) := by
        have q1 : (O.ents.map (·.a) ++ [a]).Perm (a :: O.ents.map (·.a)) := List.perm_append_singleton _ _
        have q2 : (O.ents.map (·.v) ++ [v]).Perm (v :: O.ents.map (·.v)) := List.perm_append_singleton _ _
        refine (q1.append q2).trans ?_
        exact (List.perm_middle (l₁ := O.ents.map (·.a))).cons a
      refine ((p1.cons O.d).cons O.p).trans ?_
      have s1 : (O.p :: O.d :: a :: v :: (O.ents.map (·.a) ++ O.ents.map (·.v))).Perm (a :: O.p :: O.d :: v :: (O.ents.map (·.a) ++ O.ents.map (·.v))) := ((List.Perm.swap a O.d _).cons O.p).trans (List.Perm.swap a O.p _)
      refine s1.trans (List.Perm.cons a ?_)
      exact ((List.Perm.swap v O.d _).cons O.p).trans (List.Perm.swap v O.p _)
    refine perm.nodup_iff.mpr (List.nodup_cons.mpr ⟨fun m => ?_, List.nodup_cons.mpr ⟨no hv, W.nd⟩⟩)
    rcases List.mem_cons.mp m with z | z
    · exact nav z
    · exact no ha z
theorem OStep.put {H H' : Hp} {O : OLay} {n : Int} {a v : Addr} {r : Row} (ha : H a = none) (hv : H v = none) (kp : ∀ b o, b ≠ O.d → H b = some o → H' b = some o) : OStep H O H' { O with ents := O.ents ++ [⟨n, r, a, v⟩] } := by
  refine ⟨rfl, fun b o hb e => kp b o (fun z => hb (z ▸ List.mem_cons_of_mem _ List.mem_cons_self)) e, fun b hb => ?_⟩
  have hb : b ∈ O.p :: O.d :: ((O.ents ++ [(⟨n, r, a, v⟩ : OEnt)]).map (·.a) ++ (O.ents ++ [(⟨n, r, a, v⟩ : OEnt)]).map (·.v)) := hb
  simp only [List.mem_cons, List.mem_append, List.map_append, List.map_cons, List.map_nil, List.not_mem_nil, or_false] at hb
  rcases hb with rfl | rfl | (h | rfl) | (h | rfl)
  · exact .inl List.mem_cons_self
  · exact .inl (List.mem_cons_of_mem _ List.mem_cons_self)
  · exact .inl (List.mem_cons_of_mem _ (List.mem_cons_of_mem _ (List.mem_append_left _ h)))
  · exact .inr ha
  · exact .inl (List.mem_cons_of_mem _ (List.mem_cons_of_mem _ (List.mem_append_right _ h)))
  · exact .inr hv
end Vw
namespace Vw
open PySem PySem.Spec PyProof.Rows L2
local macro_rules | `(tactic| walk_at "rd") => `(tactic| simp only [tSeq, tNext, tIfS, tAsg, tRet, tRetN, tDrop, tVar, tC, tOp, tUn, tTest, tB, tAnd, tOr, tNot, tAndV, tOrV, tNotV, tIf, tChain, tCB, tCons, tNil, tCall, tMeth, tMake, tFld, sFld, tTup, tLst, tTupS, tLstS, tDNewKS, tDNewTS, tTold, tCmp, t2I, tIsN, tNotN, tPar, gName, gNil, gCons, gTup, gSub, rI0, rU, rEq, rNe, tDGet, tDIn, tDNotIn, sDPut, tDNewK, tDGet1, tDGet2, tDPop1, tDPop2, tBM, tBM0, tM0, tM1, tSl, tPart, tNoPart, tBreak, tCont, tThru, L2.start, List.map_cons, List.map_nil, List.length_cons, List.length_nil, List.cons_append, List.nil_append, List.append_nil, List.replicate_succ, List.replicate_zero, Nat.reduceAdd, Nat.reduceSub, Nat.zero_add, List.getElem?_cons_zero, List.getElem?_cons_succ, List.set_cons_zero, List.set_cons_succ, wipe, cxOf_K, tYes, List.cons.injEq, and_self, Option.some.injEq, V.int.injEq, V.bl.injEq, V.ref.injEq, V.str.injEq, exists_eq_left', exists_eq_left, exists_and_left, and_assoc, true_and, and_true, if_true, if_false, ite_true, ite_false, Bool.not_true, Bool.not_false, Bool.false_eq_true, reduceIte])
theorem underG {M : Wd} (G : Good M) (n : Int) : underOk M (.int n) = true ↔ n = 0 ∨ ∃ r, findR M.rows n = some r := by
  show (decide (n = 0) || (decide (1 ≤ n) && decide (n ≤ M.came) && (findR M.rows n).isSome)) = true ↔ _
  constructor
  · intro h
    simp only [Bool.or_eq_true, Bool.and_eq_true, decide_eq_true_eq, Option.isSome_iff_exists] at h
    rcases h with h | ⟨_, h⟩
    · exact .inl h
    · exact .inr h
  · intro h
    simp only [Bool.or_eq_true, Bool.and_eq_true, decide_eq_true_eq, Option.isSome_iff_exists]
    rcases h with h | ⟨r, h⟩
    · exact .inl h
    · have m := findR_mem h
      have h1 := G.wf.pos _ m
      have h2 := G.le _ m
      exact .inr ⟨⟨h1, h2⟩, r, h⟩
theorem put_came (d : Addr) (c k z : Int) : putK (ownK d c k) (Sum.inr "came") (.int z) = ownK d z k := by simp [ownK, putK, ofString_inj]
theorem put_clock (d : Addr) (c k z : Int) : putK (ownK d c k) (Sum.inr "clock") (.int z) = ownK d c z := by simp [ownK, putK, ofString_inj]
theorem put_new {es : List OEnt} {n : Int} {r : Row} {a v : Addr} (h : ∀ e ∈ es, e.n ≠ n) : putK (es.map oK) (Sum.inl n) (.ref a) = es.map oK ++ [oK ⟨n, r, a, v⟩] := by
  unfold putK
  rw [if_neg]
  · rfl
  · intro z
    obtain ⟨kv, hm, e⟩ := List.any_eq_true.mp z
    obtain ⟨e0, he, rfl⟩ := List.mem_map.mp hm
    have e : (oK e0).1 = Sum.inl n := by simpa using e
    exact h e0 he (Sum.inl.inj e)
theorem merge_row (who text : Str) (n t : Int) (v : Addr) : mergeK [] (rowK ⟨who, n, text, t, [], false⟩ v) = rowK ⟨who, n, text, t, [], false⟩ v := by simp [mergeK, rowK, putK, ofString_inj]
theorem New.refu {x : Str} {H : Hp} {Q : VK} (r : Refu x H Q) : New (.tup [.str "refused", .str x]) H Q := fun p H' n s e => r p H' n s e
theorem Refu.mono {x : Str} {H H1 : Hp} {Q : VK} (r : Refu x H Q) (s : Same H H1) : Refu x H1 Q := fun p H' n s' e => r p H' (s.free n) (s.trans s') e
section
variable {P : Program} {w : World} {K : PySem.W.Frag} {mg : Str → Option Value} {base : Heap}
def spOSay (K : PySem.W.Frag) : Sp := fun vs H Q _ => ∃ (O : OLay) (who : Str) (n : Int) (text : Str), vs = [.ref O.p, .str who, .int n, .str text] ∧ OwnAt H O ∧ Good O.wd ∧ nameZ who = true ∧ textZ text = true ∧
  (∀ k M, sayM O.wd (.str who) (.int n) (.str text) = .ok (k, M) → ∀ H' O', OwnAt H' O' → O'.wd = M → OStep H O H' O' → Q (.int k) H') ∧ (∀ e, sayM O.wd (.str who) (.int n) (.str text) = .error e → Refu e.cls H Q)
abbrev N__law_say : List Str := ["own", "by", "under", "text", "row"]
theorem sc__law_say : FnScope N__law_say ["own", "by", "under", "text"] (defScope s__law_say) := ⟨rfl, rfl, rfl, by decide +kernel, rfl, by decide +kernel, by decide +kernel⟩
theorem be__law_say : BindEq "_law_say" "_law_say" s__law_say ["own", "by", "under", "text"] := fun _ _ _ _ _ _ us hl => match us, hl with | [_, _, _, _], _ => rfl
theorem D__law_say (T : Txt K mg base) : Def P w K mg base 3 (He.ga K "_law_say") ["own", "by", "under", "text"] (spOSay K) := by
  refine mk_def T.f__law_say sc__law_say be__law_say (fun vs H Q E h => ?_) (fun cdv A outer s H vs Q E hr h => ?_)
  · obtain ⟨O, who, n, text, rfl, _⟩ := h
    rfl
  · obtain ⟨O, who, n, text, rfl, W, G, hw, ht, k1, k0⟩ := h
    refine ⟨_, (C8.pss_cut (ps_if (PW.pt (pw_and (pt_cmpR op_ne (pv 2) pe_int (nomark _)) (pw_and1 (pt_cmp (pc_dni (pv 2) (pe_dg (pv 0) pe_str (by exact hu_of hr)) (by exact hu_of hr)))))) (pss_one (ps_ret (pe_tupS (pa_cons pe_str (pa_cons pe_str pa_nil))))) pss_nil)
      (C8.pss_cut (ps_if (PW.pt (pw_or (pt_cmpR op_eq (pe_callB call_lenD (by rfl) T.b_len (by decide +kernel) (pa_cons (pe_dg (pv 0) pe_str (by exact hu_of hr)) pa_nil)) pe_int (nomark _)) (pw_or1 (PW.pt (pw_and (pt_cmpR op_ne (pv 2) pe_int (nomark _)) (pw_and1 (pt_cmpR op_eq (pe_callB call_len_seq (by rfl) T.b_len (by decide +kernel) (pa_cons (pe_cd (D__law_above T) (by exact hr.mono (by first | decide | omega)) T.g__law_above passE (pa_cons (pv 0) (pa_cons (pv 2) pa_nil))) pa_nil)) pe_int (nomark _)))))))) (pss_one (ps_ret (pe_tupS (pa_cons pe_str (pa_cons pe_str pa_nil))))) pss_nil)
      (pss_cons (ps_dp (pv 0) pe_str (pe_op op_add (pe_dg (pv 0) pe_str (by exact hu_of hr)) pe_int) (by exact hu_of hr))
      (pss_cons (ps_set (i := 4) sc__law_say.nd rfl (Or.inl rfl) (pe_disp (pps_cons pe_str (pv 1) (pps_cons pe_str (pv 2) (pps_cons pe_str (pv 3) (pps_cons pe_str (pe_dg (pv 0) pe_str (by exact hu_of hr)) (pps_cons pe_str pe_dnewKS pps_nil))))) (by rfl) (by rfl) (fun z => by cases z) (by decide)))
      (pss_cons (ps_dp (pe_dg (pv 0) pe_str (by exact hu_of hr)) (pe_dg (pv 0) pe_str (by exact hu_of hr)) (pv 4) (by exact hu_of hr))
      (pss_one (ps_ret (pe_dg (pv 0) pe_str (by exact hu_of hr))))))))), ?_⟩
    walk_at "rd"
    have z2 : (2 : Nat) ≤ sizeLine := by rw [sizeLine_eq]; omega
    have ems : sayM O.wd (.str who) (.int n) (.str text) = if underOk O.wd (.int n) = false then .error .no else if 60 ≤ O.rows.length ∨ (n ≠ 0 ∧ 8 ≤ deepI O.rows n + 1) then .error .full else .ok (O.came + 1, ⟨O.rows ++ [(O.came + 1, ⟨who, n, text, O.clock, [], false⟩)], O.came + 1, O.clock⟩) := by
      unfold sayM
      rw [if_neg (show ¬ nameOk (.str who) = false by show ¬ nameZ who = false; rw [hw]; decide), if_neg (show ¬ textOk (.str text) = false by show ¬ textZ text = false; rw [ht]; decide)]
      rfl
    rw [ems] at k1 k0
    refine ⟨fun σ' H' => H' = H ∧ σ' = [some (.ref O.p), some (.str who), some (.int n), some (.str text), none] ∧ underOk O.wd (.int n) = true, ?_, ?_⟩
    · walk_at "rd"
      refine ⟨rfl, ?_⟩
      by_cases h0 : n = 0
      · rw [decide_eq_true h0]
        exact iteF ((underG G n).mpr (.inl h0))
      · rw [decide_eq_false h0]
        refine iteT ⟨_, g_rows W.rd.top, _, rfl, _, .inl ⟨_, Sum.inl n, .inl W.dic, rfl, rfl⟩, ?_⟩
        rw [valV_oK]
        cases q : findO O.ents n with
        | none =>
          have hu : underOk O.wd (.int n) = false := by
            cases c : underOk O.wd (.int n) with
            | false => rfl
            | true =>
              rcases (underG G n).mp c with z | ⟨r, z⟩
              · exact absurd z h0
              · obtain ⟨e, he, _⟩ := OLay.ent (O := O) z
                rw [he] at q
                cases q
          exact iteT ⟨z2, New.refu (k0 .no (by rw [if_pos hu]))⟩
        | some e => exact iteF ((underG G n).mpr (.inr ⟨e.row, by show findR O.rows n = _; rw [O.find, q]; rfl⟩))
    · rintro σ' H' ⟨rfl, rfl, hu⟩
      rw [if_neg (by rw [hu]; decide)] at k0 k1
      have ln : (O.ents.map oK).length = O.rows.length := by unfold OLay.rows; rw [List.length_map, List.length_map]
      have l60 : O.rows.length ≤ 60 := G.len
      refine ⟨fun σ' H1 => Same H' H1 ∧ σ' = [some (.ref O.p), some (.str who), some (.int n), some (.str text), none] ∧ ¬ (60 ≤ O.rows.length ∨ (n ≠ 0 ∧ 8 ≤ deepI O.rows n + 1)), ?_, ?_⟩
      · walk_at "rd"
        refine ⟨_, g_rows W.rd.top, _, rfl, _, W.dic, rfl, ?_⟩
        rw [ln]
        by_cases hf : O.rows.length = 60
        · rw [decide_eq_true (by omega)]
          exact iteT ⟨z2, New.refu (k0 .full (by rw [if_pos (.inl (by omega))]))⟩
        · rw [decide_eq_false (by omega)]
          refine iteF ⟨rfl, ?_⟩
          by_cases h0 : n = 0
          · rw [decide_eq_true h0]
            exact iteF ⟨Same.refl _, fun z => z.elim (by omega) fun z => z.1 h0⟩
          · rw [decide_eq_false h0]
            have hx := (underG G n).mp hu
            obtain ⟨r, hr1⟩ := hx.resolve_left h0
            have d8 : (aboveR O.rows n).length ≤ 8 := G.dp0 hx
            have d1 : 1 ≤ (aboveR O.rows n).length := by
              rw [show aboveR O.rows n = _ from G.wf.above hr1]
              simp
            refine iteT ⟨O, n, rfl, W.rd, G.wf, hx, d8, fun l H2 n2 s2 e2 => ⟨_, rfl, _, .inl (SqL.of e2), rfl, ?_⟩⟩
            rw [List.length_map]
            by_cases h8 : (aboveR O.rows n).length = 8
            · rw [decide_eq_true (by omega)]
              exact iteT ⟨z2, New.refu ((k0 .full (by rw [if_pos (.inr ⟨h0, by unfold deepI; omega⟩)])).mono s2)⟩
            · rw [decide_eq_false (by omega)]
              exact iteF ⟨s2, fun z => z.elim (by omega) fun z => by have := z.2; unfold deepI at this; omega⟩
      · rintro σ' H1 ⟨s1, rfl, hf⟩
        rw [if_neg hf] at k0 k1
        simp only [tSeq, tAsg]
        walk_at "rd"
        have W1 := W.same s1
        have lt1 : (5 : Nat) < sizeLine := by rw [sizeLine_eq]; omega
        refine ⟨_, g_came W1.rd.top, _, rfl, _, DPut.k (k := Sum.inr "came") W1.rd.top (by show 3 < sizeLine; omega), ?_⟩
        rw [put_came]
        have kp1 : ∀ b o, b ≠ O.p → H1 b = some o → upd H1 O.p (.dK (ownK O.d (O.came + 1) O.clock)) b = some o := fun b o hb e => by rw [upd_ne hb]; exact e
        have W2 : OwnAt (upd H1 O.p (.dK (ownK O.d (O.came + 1) O.clock))) { O with came := O.came + 1, clock := O.clock } := W1.top upd_same kp1
        have st2 : OStep H1 O (upd H1 O.p (.dK (ownK O.d (O.came + 1) O.clock))) { O with came := O.came + 1, clock := O.clock } := OStep.top kp1
        generalize upd H1 O.p (.dK (ownK O.d (O.came + 1) O.clock)) = H2 at W2 st2 ⊢
        intro p np
        simp only [tPairs]
        walk_at "rd"
        have npp : O.p ≠ p := ne_of_none W2.rd.top np
        have npd : O.d ≠ p := ne_of_none W2.dic np
        have s23 : Same H2 (upd H2 p (.dK [])) := Same.new np
        refine ⟨_, g_clock (O := { O with came := O.came + 1, clock := O.clock }) (s23 _ _ W2.rd.top), fun v H3 nv s3 e3 => ⟨s3 _ _ upd_same, rowK ⟨who, n, text, O.clock, [], false⟩ v, rfl, by show 5 ≤ 15; decide, ?_⟩⟩
        rw [merge_row]
        have nvp : p ≠ v := fun z => by
          rw [← z, upd_same] at nv
          cases nv
        have nv2 : H2 v = none := s23.free nv
        have nvd : O.d ≠ v := ne_of_none W2.dic nv2
        have k4 : ∀ b o, H2 b = some o → upd H3 p (.dK (rowK ⟨who, n, text, O.clock, [], false⟩ v)) b = some o := fun b o e => by
          rw [upd_ne (ne_of_none e np)]
          exact s3 _ _ (s23 _ _ e)
        have t4 := k4 _ _ W2.rd.top
        have d4 := k4 _ _ W2.dic
        have fresh : ∀ e ∈ O.ents, e.n ≠ O.came + 1 := fun e he => by
          have : (e.n, e.row) ∈ O.rows := List.mem_map.mpr ⟨e, he, rfl⟩
          have := G.le _ this
          have : e.n ≤ O.came := this
          omega
        have lz : O.ents.length + 1 < 64 := by
          have : O.ents.length = O.rows.length := by unfold OLay.rows; rw [List.length_map]
          omega
        refine ⟨_, g_rows (O := { O with came := O.came + 1, clock := O.clock }) t4, _, g_came (O := { O with came := O.came + 1, clock := O.clock }) t4, _, rfl, _, DPut.k (k := Sum.inl (O.came + 1)) d4 (by rw [List.length_map, sizeLine_eq]; show O.ents.length < _; omega), ?_⟩
        rw [put_new fresh]
        have kp5 : ∀ b o, b ≠ O.d → H2 b = some o → upd (upd H3 p (.dK (rowK ⟨who, n, text, O.clock, [], false⟩ v))) O.d (.dK (O.ents.map oK ++ [oK ⟨O.came + 1, ⟨who, n, text, O.clock, [], false⟩, p, v⟩])) b = some o := fun b o hb e => by
          rw [upd_ne hb]
          exact k4 b o e
        have W5 := W2.put (n := O.came + 1) (a := p) (v := v) (r := ⟨who, n, text, O.clock, [], false⟩) np nv2 nvp fresh (by rw [upd_ne npd.symm, upd_same]) (by rw [upd_ne nvd.symm, upd_ne nvp.symm]; exact e3) List.Pairwise.nil (by show 0 < 99999; decide) kp5 upd_same lz
        have st5 := OStep.put (O := { O with came := O.came + 1, clock := O.clock }) (n := O.came + 1) (r := ⟨who, n, text, O.clock, [], false⟩) np nv2 kp5
        refine ⟨_, g_came (O := { O with came := O.came + 1, clock := O.clock }) (kp5 _ _ W2.pd W2.rd.top), k1 _ _ rfl _ _ W5 ?_ (((OStep.same s1).trans st2).trans st5)⟩
        unfold OLay.wd OLay.rows
        rw [List.map_append]
        rfl
end
end Vw
namespace Vw
open PySem PySem.Spec PyProof.Rows L2
/-! ### a wood that can be stays one -/
theorem above_congr {rs rs' : Rows} : ∀ (k : Nat) (n : Int), n.toNat ≤ k → (∀ m, (m = n ∨ m ∈ aboveR rs n) → upR rs' m = upR rs m) → aboveR rs' n = aboveR rs n
  | k, n, hk, h => by
    have e := h n (.inl rfl)
    rw [aboveR]
    conv => rhs; rw [aboveR]
    rw [e]
    by_cases c : 0 < n ∧ 0 ≤ upR rs n ∧ upR rs n < n
    · rw [dif_pos c, dif_pos c]
      have mem : ∀ m, (m = upR rs n ∨ m ∈ aboveR rs (upR rs n)) → m ∈ aboveR rs n := fun m hm => by
        rw [aboveR, dif_pos c]
        rcases hm with rfl | hm
        · exact List.mem_cons_self
        · exact List.mem_cons_of_mem _ hm
      cases k with
      | zero => omega
      | succ k => rw [above_congr k (upR rs n) (by omega) fun m hm => h m (.inr (mem m hm))]
    · rw [dif_neg c, dif_neg c]
theorem upR_set {rs : Rows} {n : Int} {r r' : Row} (h : findR rs n = some r) (hu : r'.under = r.under) (m : Int) : upR (setR rs n r') m = upR rs m := by
  unfold upR
  rw [findR_setR]
  by_cases e : m = n
  · rw [if_pos e, e, h]
    show r'.under = r.under
    exact hu
  · rw [if_neg e]
theorem above_set {rs : Rows} {n : Int} {r r' : Row} (h : findR rs n = some r) (hu : r'.under = r.under) (m : Int) : aboveR (setR rs n r') m = aboveR rs m := above_congr m.toNat m (Nat.le_refl _) fun x _ => upR_set h hu x
theorem Good.set {M : Wd} (G : Good M) {n : Int} {r r' : Row} (h : findR M.rows n = some r) (hu : r'.under = r.under) : Good { M with rows := setR M.rows n r' } := by
  have key : ∀ p ∈ setR M.rows n r', ∃ q ∈ M.rows, q.1 = p.1 := fun p hp => by
    rcases mem_setR hp with ⟨rfl, r0, h0⟩ | ⟨h0, _⟩
    · exact ⟨_, h0, rfl⟩
    · exact ⟨p, h0, rfl⟩
  refine ⟨G.wf.set h hu, fun p hp => ?_, fun p hp => ?_, ?_⟩
  · obtain ⟨q, hq, e⟩ := key p hp
    rw [← e]
    exact G.le q hq
  · obtain ⟨q, hq, e⟩ := key p hp
    show (aboveR (setR M.rows n r') p.1).length ≤ 8
    rw [above_set h hu, ← e]
    exact G.dp q hq
  · show (setR M.rows n r').length ≤ 60
    unfold setR
    rw [List.length_map]
    exact G.len
theorem upR_drop (rs : Rows) {n m : Int} (h : m ≠ n) : upR (dropR rs n) m = upR rs m := by
  unfold upR
  rw [findR_drop, if_neg h]
theorem above_drop {rs : Rows} (F : Wf rs) {n m : Int} (hr : repliesR rs n = []) (hm : ∃ r, findR rs m = some r) (hn : m ≠ n) : aboveR (dropR rs n) m = aboveR rs m := by
  refine above_congr m.toNat m (Nat.le_refl _) fun x hx => upR_drop rs fun z => ?_
  subst z
  rcases hx with rfl | hx
  · exact hn rfl
  · obtain ⟨c, hc, _⟩ := above_child F m.toNat (Nat.le_refl _) hm hx
    rw [hr] at hc
    cases hc
theorem Good.drop {M : Wd} (G : Good M) {n : Int} (hr : repliesR M.rows n = []) : Good { M with rows := dropR M.rows n } := by
  have key : ∀ p ∈ dropR M.rows n, p ∈ M.rows ∧ p.1 ≠ n := fun p hp => by
    have := List.mem_filter.mp hp
    exact ⟨this.1, by simpa using this.2⟩
  refine ⟨G.wf.drop hr, fun p hp => G.le p (key p hp).1, fun p hp => ?_, ?_⟩
  · obtain ⟨h1, h2⟩ := key p hp
    show (aboveR (dropR M.rows n) p.1).length ≤ 8
    rw [above_drop G.wf hr ⟨p.2, findR_of G.wf.nk h1⟩ h2]
    exact G.dp p h1
  · exact Nat.le_trans (List.length_filter_le _ _) G.len
theorem Good.gone {M : Wd} (G : Good M) : ∀ (k : Nat) (rs : Rows) (n : Int), n.toNat ≤ k → Good { M with rows := rs } → Good { M with rows := (goneR rs n).1 }
  | k, rs, n, hk, g => by
    rw [goneR]
    cases q : findR rs n with
    | none => exact g
    | some r =>
      dsimp only
      split
      · rename_i h
        cases k with
        | zero => omega
        | succ k => exact Good.gone G k (dropR rs n) r.under (by omega) (Good.drop g h.2.2.2.2)
      · exact g
theorem findR_app {rs : Rows} {n : Int} {r : Row} (hn : ∀ p ∈ rs, p.1 ≠ n) (m : Int) : findR (rs ++ [(n, r)]) m = if m = n then some r else findR rs m := by
  unfold findR
  rw [List.find?_append]
  by_cases e : m = n
  · have : rs.find? (fun p => decide (p.1 = m)) = none := List.find?_eq_none.mpr fun p hp => by simpa [e] using hn p hp
    rw [this, if_pos e]
    simp [e]
  · rw [if_neg e]
    cases rs.find? fun p => decide (p.1 = m) with
    | none => simp [List.find?_cons, Ne.symm e]
    | some p => rfl
theorem Good.say {M : Wd} (G : Good M) {b u t : PyData} {k : Int} {M' : Wd} (h : sayM M b u t = .ok (k, M')) (hc : 0 ≤ M.came) : Good M' ∧ M'.came = M.came + 1 ∧ k = M.came + 1 := by
  unfold sayM at h
  split at h
  · cases h
  · split at h
    · cases h
    · rename_i hu
      split at h
      · cases h
      · split at h
        · rename_i who n text _ _
          split at h
          · cases h
          · rename_i hf
            cases h
            have hn : ∀ p ∈ M.rows, p.1 ≠ M.came + 1 := fun p hp => by
              have := G.le p hp
              omega
            have hu : n = 0 ∨ ∃ r, findR M.rows n = some r := by
              have hu : underOk M (.int n) = true := by simpa using hu
              have hu : (decide (n = 0) || (decide (1 ≤ n) && decide (n ≤ M.came) && (findR M.rows n).isSome)) = true := hu
              simp only [Bool.or_eq_true, Bool.and_eq_true, decide_eq_true_eq, Option.isSome_iff_exists] at hu
              exact hu.elim .inl fun z => .inr z.2
            have n0 : 0 ≤ n ∧ n ≤ M.came := by
              rcases hu with rfl | ⟨r, hr⟩
              · exact ⟨by omega, hc⟩
              · have m := findR_mem hr
                have h1 := G.wf.pos _ m
                have h2 := G.le _ m
                have h1 : 0 < n := h1
                exact ⟨by omega, h2⟩
            have ab : ∀ m, m ≠ M.came + 1 → (m = 0 ∨ ∃ r, findR M.rows m = some r) → aboveR (M.rows ++ [(M.came + 1, ⟨who, n, text, M.clock, [], false⟩)]) m = aboveR M.rows m := fun m hm hx => by
              refine above_congr m.toNat m (Nat.le_refl _) fun x hx' => ?_
              have ne : x ≠ M.came + 1 := by
                rcases hx' with rfl | hx'
                · exact hm
                · obtain ⟨a1, a2, a3⟩ := above_lt G.wf hx'
                  rcases a3 with z | ⟨r, z⟩
                  · omega
                  · have := G.le _ (findR_mem z)
                    have : x ≤ M.came := this
                    omega
              unfold upR
              rw [findR_app hn, if_neg ne]
            have F : Wf (M.rows ++ [(M.came + 1, (⟨who, n, text, M.clock, [], false⟩ : Row))]) := by
              refine ⟨?_, fun p hp => ?_, fun p hp => ?_, fun p hp => ?_, fun p hp => ?_⟩
              · rw [List.map_append]
                refine List.nodup_append.mpr ⟨G.wf.nk, by simp, fun a ha b hb => ?_⟩
                obtain ⟨p, hp, rfl⟩ := List.mem_map.mp ha
                have eb : b = M.came + 1 := by simpa using hb
                rw [eb]
                exact hn p hp
              all_goals rcases List.mem_append.mp hp with hp | hp
              · exact G.wf.pos p hp
              · cases List.mem_singleton.mp hp
                show 0 < M.came + 1
                omega
              · exact G.wf.u0 p hp
              · cases List.mem_singleton.mp hp
                exact n0.1
              · exact G.wf.ult p hp
              · cases List.mem_singleton.mp hp
                show n < M.came + 1
                omega
              · rcases G.wf.has p hp with z | ⟨r, z⟩
                · exact .inl z
                · refine .inr ⟨r, ?_⟩
                  rw [findR_app hn, if_neg, z]
                  have := G.le _ (findR_mem z)
                  have : p.2.under ≤ M.came := this
                  omega
              · cases List.mem_singleton.mp hp
                show n = 0 ∨ _
                rcases hu with z | ⟨r, z⟩
                · exact .inl z
                · refine .inr ⟨r, ?_⟩
                  show findR _ n = _
                  rw [findR_app hn, if_neg (by omega), z]
            refine ⟨⟨F, fun p hp => ?_, fun p hp => ?_, ?_⟩, rfl, rfl⟩
            · rcases List.mem_append.mp hp with hp | hp
              · have := G.le p hp
                show p.1 ≤ M.came + 1
                omega
              · cases List.mem_singleton.mp hp
                exact Int.le_refl _
            · rcases List.mem_append.mp hp with hp | hp
              · show (aboveR _ p.1).length ≤ 8
                rw [ab p.1 (hn p hp) (.inr ⟨p.2, findR_of G.wf.nk hp⟩)]
                exact G.dp p hp
              · cases List.mem_singleton.mp hp
                show (aboveR (M.rows ++ [(M.came + 1, (⟨who, n, text, M.clock, [], false⟩ : Row))]) (M.came + 1)).length ≤ 8
                rw [F.above (r := ⟨who, n, text, M.clock, [], false⟩) (by rw [findR_app hn, if_pos rfl])]
                show (n :: aboveR _ n).length ≤ 8
                rw [ab n (by omega) hu]
                by_cases hz : n = 0
                · rw [hz, above_zero]
                  simp
                · have : ¬ 8 ≤ deepI M.rows n + 1 := fun z => hf (.inr ⟨hz, z⟩)
                  obtain ⟨r, hr⟩ := hu.resolve_left hz
                  unfold deepI at this
                  rw [List.length_cons]
                  omega
            · show (M.rows ++ [_]).length ≤ 60
              rw [List.length_append]
              have : ¬ 60 ≤ M.rows.length := fun z => hf (.inl z)
              simp only [List.length_cons, List.length_nil]
              omega
        · cases h
end Vw
namespace Vw
open PySem PySem.Spec PyProof.Rows L2
local macro_rules | `(tactic| walk_at "rd") => `(tactic| simp only [tSeq, tNext, tIfS, tAsg, tRet, tRetN, tDrop, tVar, tC, tOp, tUn, tTest, tB, tAnd, tOr, tNot, tAndV, tOrV, tNotV, tIf, tChain, tCB, tCons, tNil, tCall, tMeth, tMake, tFld, sFld, tTup, tLst, tTupS, tLstS, tDNewKS, tDNewTS, tTold, tCmp, t2I, tIsN, tNotN, tPar, gName, gNil, gCons, gTup, gSub, rI0, rU, rEq, rNe, tDGet, tDIn, tDNotIn, sDPut, tDNewK, tDGet1, tDGet2, tDPop1, tDPop2, tBM, tBM0, tM0, tM1, tSl, tPart, tNoPart, tBreak, tCont, tThru, L2.start, List.map_cons, List.map_nil, List.length_cons, List.length_nil, List.cons_append, List.nil_append, List.append_nil, List.replicate_succ, List.replicate_zero, Nat.reduceAdd, Nat.reduceSub, Nat.zero_add, List.getElem?_cons_zero, List.getElem?_cons_succ, List.set_cons_zero, List.set_cons_succ, wipe, cxOf_K, tYes, List.cons.injEq, and_self, Option.some.injEq, V.int.injEq, V.bl.injEq, V.ref.injEq, V.str.injEq, exists_eq_left', exists_eq_left, exists_and_left, and_assoc, true_and, and_true, if_true, if_false, ite_true, ite_false, Bool.not_true, Bool.not_false, Bool.false_eq_true, reduceIte])
theorem beneath_nil {rs : Rows} (F : Wf rs) (n : Int) : beneathR rs n = [] ↔ repliesR rs n = [] := by
  constructor
  · intro h
    cases q : repliesR rs n with
    | nil => rfl
    | cons c r =>
      have hc : c ∈ repliesR rs n := by rw [q]; exact List.mem_cons_self
      obtain ⟨x, hx, _⟩ := mem_replies.mp hc
      have : c ∈ beneathR rs n := mem_beneath.mpr ⟨⟨x, hx⟩, by rw [reply_above F hc]; exact List.mem_cons_self⟩
      rw [h] at this
      cases this
  · intro h
    cases q : beneathR rs n with
    | nil => rfl
    | cons c r =>
      have hc : c ∈ beneathR rs n := by rw [q]; exact List.mem_cons_self
      obtain ⟨⟨x, hx⟩, ha⟩ := mem_beneath.mp hc
      obtain ⟨d, hd, _⟩ := above_child F c.toNat (Nat.le_refl _) ⟨x, findR_of F.nk hx⟩ ha
      rw [h] at hd
      cases hd
theorem put_text (r : Row) (v : Addr) : putK (rowK r v) (Sum.inr "text") .non = rowK { r with struck := true } v := by simp [rowK, putK, ofString_inj, tellV]
section
variable {P : Program} {w : World} {K : PySem.W.Frag} {mg : Str → Option Value} {base : Heap}
def spOStrike (K : PySem.W.Frag) : Sp := fun vs H Q _ => ∃ (O : OLay) (n : Int) (r : Row), vs = [.ref O.p, .int n] ∧ OwnAt H O ∧ Good O.wd ∧ findR O.rows n = some r ∧
  ∀ H' O', OwnAt H' O' → O'.wd = { O.wd with rows := (goneR (setR O.rows n { r with struck := true }) n).1 } → OStep H O H' O' → Q (.int (goneR (setR O.rows n { r with struck := true }) n).2) H'
abbrev N__law_strike : List Str := ["own", "number", "many"]
theorem sc__law_strike : FnScope N__law_strike ["own", "number"] (defScope s__law_strike) := ⟨rfl, rfl, rfl, by decide +kernel, rfl, by decide +kernel, by decide +kernel⟩
theorem be__law_strike : BindEq "_law_strike" "_law_strike" s__law_strike ["own", "number"] := fun _ _ _ _ _ _ us hl => match us, hl with | [_, _], _ => rfl
theorem D__law_strike (T : Txt K mg base) : Def P w K mg base 5 (He.ga K "_law_strike") ["own", "number"] (spOStrike K) := by
  refine mk_def T.f__law_strike sc__law_strike be__law_strike (fun vs H Q E h => ?_) (fun cdv A outer s H vs Q E hr h => ?_)
  · obtain ⟨O, n, r, rfl, _⟩ := h
    rfl
  · obtain ⟨O, n, r, rfl, W, G, fr, k1⟩ := h
    refine ⟨_, (pss_cons (ps_dp (pe_dg (pe_dg (pv 0) pe_str (by exact hu_of hr)) (pv 1) (by exact hu_of hr)) pe_str pe_non (by exact hu_of hr))
      (pss_cons (ps_set (i := 2) sc__law_strike.nd rfl (Or.inl rfl) pe_int)
      (pss_cons (ps_while ownE (PW.pt (pw_and (pt_cmpR op_ne (pv 1) pe_int (nomark _)) (pw_and (pt_cmpR op_isN (pe_dg (pe_dg (pe_dg (pv 0) pe_str (by exact hu_of hr)) (pv 1) (by exact hu_of hr)) pe_str (by exact hu_of hr)) pe_non (nomark _)) (pw_and1 (pt_eqd (pe_cd (D__law_beneath T) (by exact hr.mono (by first | decide | omega)) T.g__law_beneath passE (pa_cons (pv 0) (pa_cons (pv 1) pa_nil))) (pe_lstS pa_nil) (by exact hr.units)))))) (pss_cons (ps_set (i := 1) sc__law_strike.nd rfl (Or.inl rfl) (pe_dg (pe_dp1 (pe_dg (pv 0) pe_str (by exact hu_of hr)) (pv 1)) pe_str (by exact hu_of hr)))
      (pss_one (ps_set (i := 2) sc__law_strike.nd rfl (Or.inl rfl) (pe_op op_add (pv 2) pe_int)))))
      (pss_one (ps_ret (pv 2)))))), ?_⟩
    walk_at "rd"
    obtain ⟨e, he, er⟩ := OLay.ent fr
    have hm := (findO_mem he).1
    have en := (findO_mem he).2
    have lz : (5 : Nat) < sizeLine := by rw [sizeLine_eq]; omega
    refine ⟨_, g_rows W.rd.top, _, rfl, _, W.rd.at he, _, rfl, _, DPut.k (k := Sum.inr "text") (W.rd.row e hm) (by show 5 < sizeLine; exact lz), ?_⟩
    rw [put_text]
    have kp : ∀ b o, b ≠ e.a → b ≠ e.v → H b = some o → upd H e.a (.dK (rowK { e.row with struck := true } e.v)) b = some o := fun b o h1 _ q => by rw [upd_ne h1]; exact q
    have W2 := W.set hm (r := { e.row with struck := true }) upd_same (by rw [upd_ne (fun z => W.av e hm e hm z.symm)]; exact W.rd.vot e hm) (W.rd.ndv e hm) (W.rd.vsz e hm) kp
    have st2 := OStep.set (r := { e.row with struck := true }) hm kp
    generalize upd H e.a (.dK (rowK { e.row with struck := true } e.v)) = H2 at W2 st2 ⊢
    have er2 : ({ O with ents := setO O.ents e.n { e.row with struck := true } } : OLay).rows = setR O.rows n { r with struck := true } := by
      rw [en, er]
      exact rows_setO _ _ _
    have ew2 : ({ O with ents := setO O.ents e.n { e.row with struck := true } } : OLay).wd = { O.wd with rows := setR O.rows n { r with struck := true } } := by
      rw [← er2]
      rfl
    have G2 : Good ({ O with ents := setO O.ents e.n { e.row with struck := true } } : OLay).wd := by
      rw [ew2]
      exact Good.set G fr rfl
    have ec2 : ({ O with ents := setO O.ents e.n { e.row with struck := true } } : OLay).came = O.came := rfl
    have ek2 : ({ O with ents := setO O.ents e.n { e.row with struck := true } } : OLay).clock = O.clock := rfl
    generalize ({ O with ents := setO O.ents e.n { e.row with struck := true } } : OLay) = O2 at W2 st2 er2 ec2 ek2 G2
    rw [← er2] at k1
    have hn2 : n = 0 ∨ ∃ r, findR O2.rows n = some r := .inr ⟨_, by rw [er2]; exact findR_set G.wf.nk fr⟩
    refine ⟨fun m σ H' => ∃ (O' : OLay) (i c : Int), σ = [some (.ref O.p), some (.int i), some (.int c)] ∧ m = i.toNat ∧ OwnAt H' O' ∧ OStep H O H' O' ∧ Good O'.wd ∧ O'.came = O.came ∧ O'.clock = O.clock ∧ (i = 0 ∨ ∃ r, findR O'.rows i = some r) ∧ (goneR O2.rows n).1 = (goneR O'.rows i).1 ∧ (goneR O2.rows n).2 = (goneR O'.rows i).2 + c,
      ⟨_, O2, n, 0, rfl, rfl, W2, st2, G2, ec2, ek2, hn2, rfl, by omega⟩, ?_⟩
    rintro m σ H' ⟨O', i, c, rfl, rfl, W', st', G', ec', ek', hi', eg1, eg2⟩
    have pp : O'.p = O.p := st'.p
    have F' : Wf O'.rows := G'.wf
    have out : ∀ H4, Same H' H4 → goneR O'.rows i = (O'.rows, 0) → Q (.int c) H4 := fun H4 s4 g => by
      have q := k1 H4 O' (W'.same s4) ?_ (st'.trans (OStep.same s4))
      · rw [eg2, g] at q
        have e : (0 : Int) + c = c := by omega
        dsimp only at q
        rw [e] at q
        exact q
      · rw [eg1, g]
        show (⟨O'.rows, O'.came, O'.clock⟩ : Wd) = ⟨O'.rows, O.came, O.clock⟩
        rw [ec', ek']
    walk_at "rd"
    refine ⟨rfl, ?_⟩
    by_cases i0 : i = 0
    · rw [decide_eq_true i0]
      refine iteF (out H' (Same.refl _) ?_)
      rw [i0, goneR, F'.find0]
    · rw [decide_eq_false i0]
      obtain ⟨ri, hri⟩ := hi'.resolve_left i0
      obtain ⟨e', he', eri⟩ := OLay.ent hri
      have me' := (findO_mem he').1
      rw [← pp]
      refine iteT ⟨_, g_rows W'.rd.top, _, rfl, _, W'.rd.at he', _, rfl, _, g_text (W'.rd.row e' me'), ?_⟩
      obtain ⟨up1, up2, up3, up4⟩ := F'.up hri
      cases cs : e'.row.struck with
      | false =>
        rw [decide_eq_false (show ¬ tellV e'.row = V.non by unfold tellV; rw [cs]; intro z; cases z)]
        refine iteF (out H' (Same.refl _) ?_)
        rw [goneR, hri]
        show (if h : _ then _ else _) = _
        rw [dif_neg (by rw [← eri, cs]; simp)]
      | true =>
        rw [decide_eq_true (show tellV e'.row = V.non by unfold tellV; rw [cs]; rfl)]
        refine iteT ⟨O', i, rfl, W', F', G'.dp, fun q1 H3 n3 s3 e3 => ⟨Nat.zero_le _, fun l H4 n4 s4 e4 => use_eqD (dp_ints (s4 _ _ e3)) (dp_ints (ns := []) e4) (shaped_ints _) (shaped_ints []) ⟨_, rfl, ?_⟩⟩⟩
        rw [eqv_ints]
        have s24 := s3.trans s4
        have W4 := W'.same s24
        by_cases er0 : sortI (beneathR O'.rows i) = []
        · have re : repliesR O'.rows i = [] := by
            have := sortI_perm (beneathR O'.rows i)
            rw [er0] at this
            exact (beneath_nil F' i).mp this.nil_eq.symm
          rw [decide_eq_true er0]
          have g : goneR O'.rows i = ((goneR (dropR O'.rows i) ri.under).1, (goneR (dropR O'.rows i) ri.under).2 + 1) := by
            rw [goneR, hri]
            show (if h : _ then _ else _) = _
            rw [dif_pos ⟨up2, up3, up4, by rw [← eri]; exact cs, re⟩]
          have kp5 : ∀ b o, b ≠ O'.d → H4 b = some o → upd H4 O'.d (.dK (dropK (O'.ents.map oK) (Sum.inl i))) b = some o := fun b o hb e => by rw [upd_ne hb]; exact e
          have W5 := W4.pop i upd_same kp5
          have st5 := (st'.trans (OStep.same s24)).trans (OStep.pop (O := O') i kp5)
          refine iteT ⟨_, fun _ _ h => h, _, g_rows W4.rd.top, _, rfl, W4.rd.isD, _, W4.dic, Sum.inl i, rfl, _, by rw [valV_oK, he']; rfl, _, rfl, _, g_under (kp5 _ _ (W4.da e' me').1 (W4.rd.row e' me')), ?_⟩
          refine ⟨ri.under.toNat, by omega, { O' with ents := O'.ents.filter fun e => decide (e.n ≠ i) }, ri.under, c + 1, ?_, rfl, W5, st5, ?_, ec', ek', ?_, ?_, ?_⟩
          · rw [eri]
          · have : ({ O' with ents := O'.ents.filter fun e => decide (e.n ≠ i) } : OLay).wd = { O'.wd with rows := dropR O'.rows i } := by
              rw [← rows_pop]
              rfl
            rw [this]
            exact Good.drop G' re
          · rw [rows_pop]
            rcases F'.has _ (findR_mem hri) with z | ⟨z, hz⟩
            · exact .inl z
            · right
              have hz : findR O'.rows ri.under = some z := hz
              rw [findR_drop, if_neg (by omega)]
              exact ⟨z, hz⟩
          · rw [eg1, g, rows_pop]
          · rw [eg2, g, rows_pop]
            show (goneR (dropR O'.rows i) ri.under).2 + 1 + c = _
            omega
        · rw [decide_eq_false er0]
          refine iteF (out H4 s24 ?_)
          rw [goneR, hri]
          show (if h : _ then _ else _) = _
          rw [dif_neg fun h => er0 (by rw [(beneath_nil F' i).mpr h.2.2.2.2]; exact sortI_self List.Pairwise.nil)]
end
end Vw
namespace Vw
open PySem PySem.Spec PyProof.Rows L2
local macro_rules | `(tactic| walk_at "rd") => `(tactic| simp only [tSeq, tNext, tIfS, tAsg, tRet, tRetN, tDrop, tVar, tC, tOp, tUn, tTest, tB, tAnd, tOr, tNot, tAndV, tOrV, tNotV, tIf, tChain, tCB, tCons, tNil, tCall, tMeth, tMake, tFld, sFld, tTup, tLst, tTupS, tLstS, tDNewKS, tDNewTS, tTold, tCmp, t2I, tIsN, tNotN, tPar, gName, gNil, gCons, gTup, gSub, rI0, rU, rEq, rNe, tDGet, tDIn, tDNotIn, sDPut, tDNewK, tDGet1, tDGet2, tDPop1, tDPop2, tBM, tBM0, tM0, tM1, tSl, tPart, tNoPart, tBreak, tCont, tThru, L2.start, List.map_cons, List.map_nil, List.length_cons, List.length_nil, List.cons_append, List.nil_append, List.append_nil, List.replicate_succ, List.replicate_zero, Nat.reduceAdd, Nat.reduceSub, Nat.zero_add, List.getElem?_cons_zero, List.getElem?_cons_succ, List.set_cons_zero, List.set_cons_succ, wipe, cxOf_K, tYes, List.cons.injEq, and_self, Option.some.injEq, V.int.injEq, V.bl.injEq, V.ref.injEq, V.str.injEq, exists_eq_left', exists_eq_left, exists_and_left, and_assoc, true_and, and_true, if_true, if_false, ite_true, ite_false, Bool.not_true, Bool.not_false, Bool.false_eq_true, reduceIte])
/-! ### deeds -/
inductive Deed where
  | say (n : Int) (who text : Str)
  | tick (k : Int) (who : Str)
  | change (n : Int) (who text : Str)
  | strike (n : Int) (who : Str)
  | vote (n : Int) (who : Str) (way : Int)
def Deed.tup : Deed → List V
  | .say n who text => [.str "say", .int n, .str who, .str text]
  | .tick k who => [.str "tick", .int k, .str who]
  | .change n who text => [.str "change", .int n, .str who, .str text]
  | .strike n who => [.str "strike", .int n, .str who]
  | .vote n who way => [.str "vote", .int n, .str who, .int way]
structure DeedOk (d : Deed) : Prop where
  who : ∀ {n who text}, d = .say n who text ∨ d = .change n who text → nameZ who = true ∧ textZ text = true
  tick : ∀ {k who}, d = .tick k who → 0 ≤ k ∧ k ≤ 1000
  tickn : ∀ {k who}, d = .tick k who → nameZ who = true
  strike : ∀ {n who}, d = .strike n who → nameZ who = true
  vote : ∀ {n who way}, d = .vote n who way → nameZ who = true ∧ (way = 1 ∨ way = -1 ∨ way = 0)
def actM (M : Wd) : Deed → Except Er (V × Wd)
  | .say n who text => (sayM M (.str who) (.int n) (.str text)).map fun p => (.int p.1, p.2)
  | .tick k _ => .ok (.non, { M with clock := M.clock + k })
  | .change n who text => (changeM M (.int n) (.str who) (.str text)).map fun p => (.non, p)
  | .strike n who => (strikeM M (.int n) (.str who)).map fun p => (.int p.1, p.2)
  | .vote n who way => (voteM M (.int n) (.str who) (.int way)).map fun p => (.int p.1, p.2)
theorem put_text2 {r : Row} {v : Addr} {z : Str} (h : r.struck = false) : putK (rowK r v) (Sum.inr "text") (.str z) = rowK { r with text := z } v := by simp [rowK, putK, ofString_inj, tellV, h]
theorem dq {a b : String} (h : a ≠ b) : decide (V.str (Str.ofString a) = V.str (Str.ofString b)) = false := decide_eq_false fun z => h (by rw [← ofString_inj]; exact V.str.inj z)
theorem dq1 (a : Str) : decide (V.str a = V.str a) = true := decide_eq_true rfl
theorem points_sum : ∀ {r : Row}, (∀ v ∈ r.votes, v.2 = 1 ∨ v.2 = -1) → r.points = (r.votes.map (·.2)).sum := fun {r} h => by
  unfold Row.points Row.ups Row.downs
  generalize r.votes = l at h
  induction l with
  | nil => rfl
  | cons p t ih =>
    obtain ⟨b, w⟩ := p
    have q := ih fun v hv => h v (List.mem_cons_of_mem _ hv)
    have hw : w = 1 ∨ w = -1 := h (b, w) List.mem_cons_self
    rcases hw with e | e
    all_goals subst e; simp [List.filter_cons] at q ⊢; omega
def VotesOk (M : Wd) : Prop := ∀ p ∈ M.rows, ∀ v ∈ p.2.votes, v.2 = 1 ∨ v.2 = -1
theorem sayingG {M : Wd} (G : Good M) (n : Int) : sayingM M (.int n) = (findR M.rows n).map fun r => (n, r) := by
  show (if 1 ≤ n ∧ n ≤ M.came then (findR M.rows n).map fun r => (n, r) else none) = _
  cases q : findR M.rows n with
  | none => split <;> rfl
  | some r =>
    have m := findR_mem q
    have h1 := G.wf.pos _ m
    have h2 := G.le _ m
    have h1 : 0 < n := h1
    have h2 : n ≤ M.came := h2
    rw [if_pos ⟨by omega, h2⟩]
section
variable {P : Program} {w : World} {K : PySem.W.Frag} {mg : Str → Option Value} {base : Heap}
def spAct (K : PySem.W.Frag) : Sp := fun vs H Q _ => ∃ (O : OLay) (p : Addr) (d : Deed), vs = [.ref O.p, .ref p] ∧ SqT K H p d.tup ∧ OwnAt H O ∧ Good O.wd ∧ DeedOk d ∧ VotesOk O.wd ∧ (∀ e ∈ O.ents, e.row.votes.length < 9999) ∧
  (∀ v M, actM O.wd d = .ok (v, M) → ∀ H' O', OwnAt H' O' → O'.wd = M → OStep H O H' O' → Q v H') ∧ (∀ e, actM O.wd d = .error e → Refu e.cls H Q)
abbrev N__law_act : List Str := ["own", "deed", "word", "number", "by", "row"]
theorem sc__law_act : FnScope N__law_act ["own", "deed"] (defScope s__law_act) := ⟨rfl, rfl, rfl, by decide +kernel, rfl, by decide +kernel, by decide +kernel⟩
theorem be__law_act : BindEq "_law_act" "_law_act" s__law_act ["own", "deed"] := fun _ _ _ _ _ _ us hl => match us, hl with | [_, _], _ => rfl
theorem D__law_act (T : Txt K mg base) : Def P w K mg base 7 (He.ga K "_law_act") ["own", "deed"] (spAct K) := by
  refine mk_def T.f__law_act sc__law_act be__law_act (fun vs H Q E h => ?_) (fun cdv A outer s H vs Q E hr h => ?_)
  · obtain ⟨O, p, d, rfl, _⟩ := h
    rfl
  · obtain ⟨O, p, d, rfl, hp, W, G, ok, vok, vz, k1, k0⟩ := h
    refine ⟨_, (pss_cons (ps_asg (pe_slice sl_tupN (pv 1) po_none (po_some pe_int)) (pg_tup (n := 3) (by rfl) (pgs_cons (pg_name (i := 2) sc__law_act.nd rfl (Or.inl rfl)) (pgs_cons (pg_name (i := 3) sc__law_act.nd rfl (Or.inl rfl)) (pgs_cons (pg_name (i := 4) sc__law_act.nd rfl (Or.inl rfl)) pgs_nil)))))
      (pss_cons (ps_if (pt_cmpR op_eq (pv 2) pe_str (nomark _)) (pss_one (ps_ret (pe_cd (D__law_say T) (by exact hr.mono (by first | decide | omega)) T.g__law_say passE (pa_cons (pv 0) (pa_cons (pv 4) (pa_cons (pv 3) (pa_cons (pe_ix ix_tup (pv 1) pe_int (fun _ _ => rfl)) pa_nil))))))) pss_nil)
      (pss_cons (ps_if (pt_cmpR op_eq (pv 2) pe_str (nomark _)) (pss_cons (ps_dp (pv 0) pe_str (pe_op op_add (pe_dg (pv 0) pe_str (by exact hu_of hr)) (pv 3)) (by exact hu_of hr))
      (pss_one (ps_ret pe_non))) pss_nil)
      (pss_cons (ps_if (pt_cmp (pc_dni (pv 3) (pe_dg (pv 0) pe_str (by exact hu_of hr)) (by exact hu_of hr))) (pss_one (ps_ret (pe_tupS (pa_cons pe_str (pa_cons pe_str pa_nil))))) pss_nil)
      (pss_cons (ps_set (i := 5) sc__law_act.nd rfl (Or.inl rfl) (pe_dg (pe_dg (pv 0) pe_str (by exact hu_of hr)) (pv 3) (by exact hu_of hr)))
      (pss_cons (ps_if (PW.pt (pw_or (pt_cmpR op_isN (pe_dg (pv 5) pe_str (by exact hu_of hr)) pe_non (nomark _)) (pw_or1 (pt_cmpR op_eq (pe_cmpR op_eq (pe_dg (pv 5) pe_str (by exact hu_of hr)) (pv 4) (nomark _)) (pe_cmpR op_eq (pv 2) pe_str (nomark _)) (nomark _))))) (pss_one (ps_ret (pe_tupS (pa_cons pe_str (pa_cons pe_str pa_nil))))) pss_nil)
      (pss_cons (ps_if (pt_cmpR op_eq (pv 2) pe_str (nomark _)) (pss_one (ps_ret (pe_cd (D__law_strike T) (by exact hr.mono (by first | decide | omega)) T.g__law_strike passE (pa_cons (pv 0) (pa_cons (pv 3) pa_nil))))) pss_nil)
      (pss_cons (ps_if (pt_cmpR op_eq (pv 2) pe_str (nomark _)) (pss_cons (ps_dp (pv 5) pe_str (pe_ix ix_tup (pv 1) pe_int (fun _ _ => rfl)) (by exact hu_of hr))
      (pss_one (ps_ret pe_non))) pss_nil)
      (pss_cons (ps_expr (pe_dp2 (pe_dg (pv 5) pe_str (by exact hu_of hr)) (pv 4) pe_non))
      (C8.pss_cut (ps_if (pt_ned (pe_ix ix_tup (pv 1) pe_int (fun _ _ => rfl)) pe_int (by exact hr.units)) (pss_one (ps_dp (pe_dg (pv 5) pe_str (by exact hu_of hr)) (pv 4) (pe_ix ix_tup (pv 1) pe_int (fun _ _ => rfl)) (by exact hu_of hr))) pss_nil)
      (pss_one (ps_ret (pe_cd (D__law_points T) (by exact hr.mono (by first | decide | omega)) T.g__law_points passE (pa_cons (pv 5) pa_nil)))))))))))))), ?_⟩
    walk_at "rd"
    have z3 : (5 : Nat) < sizeLine := by rw [sizeLine_eq]; omega
    refine ⟨p, _, rfl, hp, fun p2 H1 s1 h2 => ?_⟩
    have W1 := W.same s1
    have hp1 : SqT K H1 p d.tup := Same.tup s1 hp
    have k1' : ∀ v M, actM O.wd d = .ok (v, M) → ∀ H' O', OwnAt H' O' → O'.wd = M → OStep H1 O H' O' → Q v H' := fun v M h H' O' a b c => k1 v M h H' O' a b ((OStep.same s1).trans c)
    have k0' : ∀ e, actM O.wd d = .error e → Refu e.cls H1 Q := fun e h => (k0 e h).mono s1
    cases d with
    | say n who text =>
      obtain ⟨nw, tw⟩ := ok.who (.inl rfl)
      refine ⟨p2, rfl, _, h2, rfl, _, _, rfl, _, _, rfl, _, _, rfl, rfl, rfl, ?_⟩
      rw [decide_eq_true rfl]
      refine iteT ⟨p, _, 3, _, rfl, rfl, hp1, rfl, O, who, n, text, rfl, W1, G, nw, tw, fun k M h H' O' a b c => k1' _ _ ?_ H' O' a b c, fun e h => k0' e ?_⟩
      · show (sayM O.wd (.str who) (.int n) (.str text)).map _ = _
        rw [h]
        rfl
      · show (sayM O.wd (.str who) (.int n) (.str text)).map _ = _
        rw [h]
        rfl
    | tick k who =>
      refine ⟨p2, rfl, _, h2, rfl, _, _, rfl, _, _, rfl, _, _, rfl, rfl, rfl, ?_⟩
      rw [decide_eq_false (by decide +kernel)]
      refine iteF ⟨rfl, ?_⟩
      rw [decide_eq_true rfl]
      refine iteT ⟨_, g_clock W1.rd.top, _, rfl, _, rfl, _, DPut.k (k := Sum.inr "clock") W1.rd.top (by show 3 < sizeLine; omega), ?_⟩
      rw [put_clock]
      have kp1 : ∀ b o, b ≠ O.p → H1 b = some o → upd H1 O.p (.dK (ownK O.d O.came (O.clock + k))) b = some o := fun b o hb e => by rw [upd_ne hb]; exact e
      exact k1' _ _ rfl _ _ (W1.top (c := O.came) (k := O.clock + k) upd_same kp1) rfl (OStep.top kp1)
    | change n who text =>
      obtain ⟨nw, tw⟩ := ok.who (.inr rfl)
      refine ⟨p2, rfl, _, h2, rfl, _, _, rfl, _, _, rfl, _, _, rfl, rfl, rfl, ?_⟩
      rw [decide_eq_false (by decide +kernel)]
      refine iteF ⟨rfl, ?_⟩
      rw [decide_eq_false (by decide +kernel)]
      refine iteF ⟨_, g_rows W1.rd.top, _, rfl, _, .inl ⟨_, Sum.inl n, .inl W1.dic, rfl, rfl⟩, ?_⟩
      rw [valV_oK]
      have sg : sayingM O.wd (.int n) = (findO O.ents n).map fun e => (n, e.row) := by
        rw [sayingG G]
        show (findR O.rows n).map _ = _
        rw [O.find]
        cases findO O.ents n <;> rfl
      cases q : findO O.ents n with
      | none =>
        rw [q] at sg
        exact iteT ⟨by omega, New.refu (k0' .no (by show (changeM O.wd (.int n) (.str who) (.str text)).map _ = _; unfold changeM ownM; rw [sg]; rfl))⟩
      | some e =>
        rw [q] at sg
        have me := (findO_mem q).1
        have en := (findO_mem q).2
        have sg : sayingM O.wd (.int n) = some (n, e.row) := sg
        have fr : findR O.rows n = some e.row := by rw [O.find, q]; rfl
        refine iteF ⟨_, g_rows W1.rd.top, _, rfl, _, W1.rd.at q, _, rfl, _, g_text (W1.rd.row e me), ?_⟩
        cases cs : e.row.struck with
        | true =>
          rw [decide_eq_true (show tellV e.row = V.non by unfold tellV; rw [cs]; rfl)]
          exact iteT ⟨by omega, New.refu (k0' .yours (by show (changeM O.wd (.int n) (.str who) (.str text)).map _ = _; unfold changeM ownM; rw [sg]; dsimp only; rw [if_neg (show ¬ nameOk (.str who) = false by show ¬ nameZ who = false; rw [nw]; decide), if_neg (fun z => by rw [cs] at z; cases z.2)]; rfl))⟩
        | false =>
          rw [decide_eq_false (show ¬ tellV e.row = V.non by unfold tellV; rw [cs]; intro z; cases z)]
          refine iteF ⟨_, rfl, _, g_by (W1.rd.row e me), rfl, rfl, rfl, ?_⟩
          by_cases hw : e.row.who = who
          · rw [hw, dq1 who, dq (a := "change") (b := "vote") (by decide), show decide (true = false) = false from rfl]
            refine iteF ⟨rfl, ?_⟩
            rw [dq (a := "change") (b := "strike") (by decide)]
            refine iteF ⟨rfl, ?_⟩
            rw [dq1]
            refine iteT ⟨p, _, 3, _, rfl, rfl, hp1, rfl, _, rfl, _, DPut.k (k := Sum.inr "text") (W1.rd.row e me) (by show 5 < sizeLine; exact z3), ?_⟩
            rw [put_text2 cs]
            have kp : ∀ b o, b ≠ e.a → b ≠ e.v → H1 b = some o → upd H1 e.a (.dK (rowK { e.row with text := text } e.v)) b = some o := fun b o h1 _ q => by rw [upd_ne h1]; exact q
            refine k1' _ _ ?_ _ _ (W1.set me (r := { e.row with text := text }) upd_same (by rw [upd_ne (fun z => W1.av e me e me z.symm)]; exact W1.rd.vot e me) (W1.rd.ndv e me) (W1.rd.vsz e me) kp) rfl (OStep.set me kp)
            show (changeM O.wd (.int n) (.str who) (.str text)).map _ = _
            unfold changeM ownM
            rw [sg]
            dsimp only
            rw [if_neg (show ¬ nameOk (.str who) = false by show ¬ nameZ who = false; rw [nw]; decide), if_pos ⟨by show decide (who = e.row.who) = true; rw [hw]; exact decide_eq_true rfl, cs⟩]
            dsimp only
            rw [tw]
            show Except.ok (V.non, ({ rows := setR O.rows n { e.row with text := text }, came := O.came, clock := O.clock } : Wd)) = Except.ok (V.non, ({ O with ents := setO O.ents e.n { e.row with text := text } } : OLay).wd)
            unfold OLay.wd
            rw [rows_setO, en]
          · rw [show decide (V.str e.row.who = V.str who) = false from decide_eq_false (fun z => hw (V.str.inj z)), dq (a := "change") (b := "vote") (by decide), show decide (false = false) = true from rfl]
            refine iteT ⟨by omega, New.refu (k0' .yours ?_)⟩
            show (changeM O.wd (.int n) (.str who) (.str text)).map _ = _
            unfold changeM ownM
            rw [sg]
            dsimp only
            rw [if_neg (show ¬ nameOk (.str who) = false by show ¬ nameZ who = false; rw [nw]; decide), if_neg (fun z => hw (of_decide_eq_true (show decide (who = e.row.who) = true from z.1)).symm)]
            rfl
    | strike n who =>
      have nw := ok.strike rfl
      refine ⟨p2, rfl, _, h2, rfl, _, _, rfl, _, _, rfl, _, _, rfl, rfl, rfl, ?_⟩
      rw [decide_eq_false (by decide +kernel)]
      refine iteF ⟨rfl, ?_⟩
      rw [decide_eq_false (by decide +kernel)]
      refine iteF ⟨_, g_rows W1.rd.top, _, rfl, _, .inl ⟨_, Sum.inl n, .inl W1.dic, rfl, rfl⟩, ?_⟩
      rw [valV_oK]
      have sg : sayingM O.wd (.int n) = (findO O.ents n).map fun e => (n, e.row) := by
        rw [sayingG G]
        show (findR O.rows n).map _ = _
        rw [O.find]
        cases findO O.ents n <;> rfl
      cases q : findO O.ents n with
      | none =>
        rw [q] at sg
        exact iteT ⟨by omega, New.refu (k0' .no (by show (strikeM O.wd (.int n) (.str who)).map _ = _; unfold strikeM ownM; rw [sg]; rfl))⟩
      | some e =>
        rw [q] at sg
        have me := (findO_mem q).1
        have en := (findO_mem q).2
        have sg : sayingM O.wd (.int n) = some (n, e.row) := sg
        have fr : findR O.rows n = some e.row := by rw [O.find, q]; rfl
        refine iteF ⟨_, g_rows W1.rd.top, _, rfl, _, W1.rd.at q, _, rfl, _, g_text (W1.rd.row e me), ?_⟩
        cases cs : e.row.struck with
        | true =>
          rw [decide_eq_true (show tellV e.row = V.non by unfold tellV; rw [cs]; rfl)]
          exact iteT ⟨by omega, New.refu (k0' .yours (by show (strikeM O.wd (.int n) (.str who)).map _ = _; unfold strikeM ownM; rw [sg]; dsimp only; rw [if_neg (show ¬ nameOk (.str who) = false by show ¬ nameZ who = false; rw [nw]; decide), if_neg (fun z => by rw [cs] at z; cases z.2)]; rfl))⟩
        | false =>
          rw [decide_eq_false (show ¬ tellV e.row = V.non by unfold tellV; rw [cs]; intro z; cases z)]
          refine iteF ⟨_, rfl, _, g_by (W1.rd.row e me), rfl, rfl, rfl, ?_⟩
          by_cases hw : e.row.who = who
          · rw [hw, dq1 who, dq (a := "strike") (b := "vote") (by decide), show decide (true = false) = false from rfl]
            refine iteF ⟨rfl, ?_⟩
            rw [dq1]
            refine iteT ⟨O, n, e.row, rfl, W1, G, fr, fun H' O' a b c => k1' _ _ ?_ H' O' a b c⟩
            show (strikeM O.wd (.int n) (.str who)).map _ = _
            unfold strikeM ownM
            rw [sg]
            dsimp only
            rw [if_neg (show ¬ nameOk (.str who) = false by show ¬ nameZ who = false; rw [nw]; decide), if_pos ⟨by show decide (who = e.row.who) = true; rw [hw]; exact decide_eq_true rfl, cs⟩]
            rfl
          · rw [show decide (V.str e.row.who = V.str who) = false from decide_eq_false (fun z => hw (V.str.inj z)), dq (a := "strike") (b := "vote") (by decide), show decide (false = false) = true from rfl]
            refine iteT ⟨by omega, New.refu (k0' .yours ?_)⟩
            show (strikeM O.wd (.int n) (.str who)).map _ = _
            unfold strikeM ownM
            rw [sg]
            dsimp only
            rw [if_neg (show ¬ nameOk (.str who) = false by show ¬ nameZ who = false; rw [nw]; decide), if_neg (fun z => hw (of_decide_eq_true (show decide (who = e.row.who) = true from z.1)).symm)]
            rfl
    | vote n who way =>
      obtain ⟨nw, ww⟩ := ok.vote rfl
      have cw : isCount (.int way) (-1) 1 = true := by
        show (decide ((-1 : Int) ≤ way) && decide (way ≤ 1)) = true
        simp
        omega
      refine ⟨p2, rfl, _, h2, rfl, _, _, rfl, _, _, rfl, _, _, rfl, rfl, rfl, ?_⟩
      rw [decide_eq_false (by decide +kernel)]
      refine iteF ⟨rfl, ?_⟩
      rw [decide_eq_false (by decide +kernel)]
      refine iteF ⟨_, g_rows W1.rd.top, _, rfl, _, .inl ⟨_, Sum.inl n, .inl W1.dic, rfl, rfl⟩, ?_⟩
      rw [valV_oK]
      have sg : sayingM O.wd (.int n) = (findO O.ents n).map fun e => (n, e.row) := by
        rw [sayingG G]
        show (findR O.rows n).map _ = _
        rw [O.find]
        cases findO O.ents n <;> rfl
      cases q : findO O.ents n with
      | none =>
        rw [q] at sg
        exact iteT ⟨by omega, New.refu (k0' .no (by show (voteM O.wd (.int n) (.str who) (.int way)).map _ = _; unfold voteM; rw [sg]; rfl))⟩
      | some e =>
        rw [q] at sg
        have me := (findO_mem q).1
        have en := (findO_mem q).2
        have sg : sayingM O.wd (.int n) = some (n, e.row) := sg
        have fr : findR O.rows n = some e.row := by rw [O.find, q]; rfl
        refine iteF ⟨_, g_rows W1.rd.top, _, rfl, _, W1.rd.at q, _, rfl, _, g_text (W1.rd.row e me), ?_⟩
        cases cs : e.row.struck with
        | true =>
          rw [decide_eq_true (show tellV e.row = V.non by unfold tellV; rw [cs]; rfl)]
          exact iteT ⟨by omega, New.refu (k0' .yours (by show (voteM O.wd (.int n) (.str who) (.int way)).map _ = _; unfold voteM; rw [sg]; dsimp only; rw [if_neg (show ¬ nameOk (.str who) = false by show ¬ nameZ who = false; rw [nw]; decide), if_neg (by rw [cw]; decide), if_pos (.inr cs)]; rfl))⟩
        | false =>
          rw [decide_eq_false (show ¬ tellV e.row = V.non by unfold tellV; rw [cs]; intro z; cases z)]
          refine iteF ⟨_, rfl, _, g_by (W1.rd.row e me), rfl, rfl, rfl, ?_⟩
          by_cases hw : e.row.who = who
          · rw [hw, dq1 who, dq1, show decide (true = true) = true from rfl]
            refine iteT ⟨by omega, New.refu (k0' .yours ?_)⟩
            show (voteM O.wd (.int n) (.str who) (.int way)).map _ = _
            unfold voteM
            rw [sg]
            dsimp only
            rw [if_neg (show ¬ nameOk (.str who) = false by show ¬ nameZ who = false; rw [nw]; decide), if_neg (by rw [cw]; decide), if_pos (.inl hw)]
            rfl
          · rw [show decide (V.str e.row.who = V.str who) = false from decide_eq_false (fun z => hw (V.str.inj z)), dq1, show decide (false = true) = false from rfl]
            refine iteF ⟨rfl, ?_⟩
            rw [dq (a := "vote") (b := "strike") (by decide)]
            refine iteF ⟨rfl, ?_⟩
            rw [dq (a := "vote") (b := "change") (by decide)]
            refine iteF ⟨_, rfl, _, g_votes (W1.rd.row e me), pop_any (W1.rd.vot e me) fun H2 h3 k2 => ?_⟩
            have keepT : ∀ {H3 : Hp}, (∀ b o, b ≠ e.v → H1 b = some o → H3 b = some o) → SqT K H3 p (Deed.vote n who way).tup := fun {H3} kk => by
              rcases hp1 with (h | ⟨o, h⟩) | h
              · exact .inl (.inl (kk _ _ (ne_of h (W1.rd.vot e me) (by intro z; cases z)) h))
              · exact .inl (.inr ⟨o, kk _ _ (ne_of h (W1.rd.vot e me) (by intro z; cases z)) h⟩)
              · exact .inr h
            have ndf : ((e.row.votes.filter fun p => decide (p.1 ≠ who)).map (·.1)).Nodup := (W1.rd.ndv e me).sublist (List.filter_sublist.map _)
            have lf : (e.row.votes.filter fun p => decide (p.1 ≠ who)).length ≤ e.row.votes.length := List.length_filter_le _ _
            have vze := vz e me
            have hno : ∀ p ∈ e.row.votes.filter (fun p => decide (p.1 ≠ who)), p.1 ≠ who := fun p hp => by simpa using (List.mem_filter.mp hp).2
            have ndm : ((votesM e.row.votes who way).map (·.1)).Nodup := by
              unfold votesM
              dsimp only
              split
              · exact ndf
              · rw [List.map_append]
                refine nd_snoc ndf fun m => ?_
                obtain ⟨p, hp, ep⟩ := List.mem_map.mp m
                exact hno p hp ep
            have lm : (votesM e.row.votes who way).length < 99999 := by
              unfold votesM
              dsimp only
              split
              · omega
              · rw [List.length_append, List.length_singleton]
                omega
            refine ⟨fun σ' H3 => σ' = [some (.ref O.p), some (.ref p), some (.str "vote"), some (.int n), some (.str who), some (.ref e.a)] ∧ H3 e.v = some (.dK (votesK (votesM e.row.votes who way))) ∧ (∀ b o, b ≠ e.v → H1 b = some o → H3 b = some o), ?_, ?_⟩
            · walk_at "rd"
              refine ⟨p, _, 3, .int way, rfl, rfl, keepT k2, rfl, use_neD (.int _) (.int _) rfl rfl ⟨_, rfl, ?_⟩⟩
              rw [eqv_int]
              by_cases w0 : way = 0
              · rw [decide_eq_true w0]
                have ev0 : votesM e.row.votes who way = e.row.votes.filter fun p => decide (p.1 ≠ who) := if_pos w0
                exact iteF ⟨by rw [ev0]; exact h3, k2⟩
              · rw [decide_eq_false w0]
                have ev0 : votesM e.row.votes who way = (e.row.votes.filter fun p => decide (p.1 ≠ who)) ++ [(who, way)] := if_neg w0
                have vn : valV (votesK (e.row.votes.filter fun p => decide (p.1 ≠ who))) (Sum.inr who) = none := by
                  cases q : valV (votesK (e.row.votes.filter fun p => decide (p.1 ≠ who))) (Sum.inr who) with
                  | none => rfl
                  | some u =>
                    have m := valV_in q
                    unfold votesK at m
                    rw [List.map_map] at m
                    obtain ⟨p, hp, ep⟩ := List.mem_map.mp m
                    exact absurd (Sum.inr.inj ep) (hno p hp)
                refine iteT ⟨p, _, 3, .int way, rfl, rfl, keepT k2, rfl, _, g_votes (k2 _ _ (W1.av e me e me) (W1.rd.row e me)), _, rfl, _, DPut.k (k := Sum.inr who) h3 (by unfold votesK; rw [List.length_map, sizeLine_eq]; omega), ?_, fun b o hb q => by rw [upd_ne hb]; exact k2 b o hb q⟩
                rw [upd_same, putK_new _ vn]
                show some (HO.dK (votesK _ ++ [voteK (who, way)])) = some (HO.dK (votesK (votesM e.row.votes who way)))
                rw [ev0]
                simp [votesK]
            · rintro σ' H3 ⟨rfl, h4, k3⟩
              walk_at "rd"
              have ra : H3 e.a = some (.dK (rowK { e.row with votes := votesM e.row.votes who way } e.v)) := k3 _ _ (W1.av e me e me) (W1.rd.row e me)
              have k3' : ∀ b o, b ≠ e.a → b ≠ e.v → H1 b = some o → H3 b = some o := fun b o _ hb q => k3 b o hb q
              refine ⟨e.a, e.v, { e.row with votes := votesM e.row.votes who way }, rfl, ra, h4, ndm, W1.av e me e me, lm, fun H4 s4 => ?_⟩
              have pm : ∀ v ∈ votesM e.row.votes who way, v.2 = 1 ∨ v.2 = -1 := fun v hv => by
                have old : ∀ v ∈ e.row.votes, v.2 = 1 ∨ v.2 = -1 := fun v hv => vok (e.n, e.row) (List.mem_map.mpr ⟨e, me, rfl⟩) v hv
                unfold votesM at hv
                dsimp only at hv
                split at hv
                · exact old v (List.mem_filter.mp hv).1
                · rename_i w0
                  rcases List.mem_append.mp hv with hv | hv
                  · exact old v (List.mem_filter.mp hv).1
                  · cases List.mem_singleton.mp hv
                    show way = 1 ∨ way = -1
                    omega
              refine k1' _ _ ?_ _ _ ((W1.set me ra h4 ndm lm k3').same s4) rfl ((OStep.set me k3').trans (OStep.same s4))
              show (voteM O.wd (.int n) (.str who) (.int way)).map _ = _
              unfold voteM
              rw [sg]
              dsimp only
              rw [if_neg (show ¬ nameOk (.str who) = false by show ¬ nameZ who = false; rw [nw]; decide), if_neg (by rw [cw]; decide), if_neg (fun z => z.elim hw (fun z => by rw [cs] at z; cases z))]
              show Except.ok (V.int (Row.points { e.row with votes := votesM e.row.votes who way }), ({ rows := setR O.rows n { e.row with votes := votesM e.row.votes who way }, came := O.came, clock := O.clock } : Wd)) = Except.ok (V.int ((votesM e.row.votes who way).map (·.2)).sum, ({ O with ents := setO O.ents e.n { e.row with votes := votesM e.row.votes who way } } : OLay).wd)
              rw [points_sum pm]
              unfold OLay.wd
              rw [rows_setO, en]
end
end Vw
namespace Vw
open PySem PySem.Spec PyProof.Rows L2
local macro_rules | `(tactic| walk_at "rd") => `(tactic| simp only [tSeq, tNext, tIfS, tAsg, tRet, tRetN, tDrop, tVar, tC, tOp, tUn, tTest, tB, tAnd, tOr, tNot, tAndV, tOrV, tNotV, tIf, tChain, tCB, tCons, tNil, tCall, tMeth, tMake, tFld, sFld, tTup, tLst, tTupS, tLstS, tDNewKS, tDNewTS, tTold, tCmp, t2I, tIsN, tNotN, tPar, gName, gNil, gCons, gTup, gSub, rI0, rU, rEq, rNe, tDGet, tDIn, tDNotIn, sDPut, tDNewK, tDGet1, tDGet2, tDPop1, tDPop2, tBM, tBM0, tM0, tM1, tSl, tPart, tNoPart, tBreak, tCont, tThru, L2.start, List.map_cons, List.map_nil, List.length_cons, List.length_nil, List.cons_append, List.nil_append, List.append_nil, List.replicate_succ, List.replicate_zero, Nat.reduceAdd, Nat.reduceSub, Nat.zero_add, List.getElem?_cons_zero, List.getElem?_cons_succ, List.set_cons_zero, List.set_cons_succ, wipe, cxOf_K, tYes, List.cons.injEq, and_self, Option.some.injEq, V.int.injEq, V.bl.injEq, V.ref.injEq, V.str.injEq, exists_eq_left', exists_eq_left, exists_and_left, and_assoc, true_and, and_true, if_true, if_false, ite_true, ite_false, Bool.not_true, Bool.not_false, Bool.false_eq_true, reduceIte])
/-- a wood's deed, by way of a lambda: tables of code objects may grow -/
structure WStep (H : Hp) (L : Lay) (H' : Hp) (L' : Lay) : Prop where
  p : L'.p = L.p
  keep : ∀ b o, b ∉ foot L → H b = some o → (∀ ps, o ≠ .tbl ps) → H' b = some o
  new : ∀ b ∈ foot L', b ∈ foot L ∨ ∀ o, H b = some o → ∃ ps, o = .tbl ps
theorem WStep.of {H H1 H' : Hp} {L L' : Lay} (e : LamX.ExtN H H1) (s : Step H1 L H' L') : WStep H L H' L' :=
  ⟨s.p, fun b o hb h n => s.keep b o hb (e b o h n), fun b hb => (s.new b hb).elim .inl fun z => .inr fun o h => by
    by_cases c : ∃ ps, o = .tbl ps
    · exact c
    · have := e b o h fun ps q => c ⟨ps, q⟩
      rw [z] at this
      cases this⟩
def sixE (e : Er) : Prop := e = .name ∨ e = .no ∨ e = .text ∨ e = .full ∨ e = .yours ∨ e = .number
theorem six_cls {e : Er} (h : sixE e) : e.cls ∈ errs := by
  rcases h with rfl | rfl | rfl | rfl | rfl | rfl <;> decide +kernel
theorem say_errs {M : Wd} {b u t : PyData} {e : Er} (h : sayM M b u t = .error e) : sixE e := by
  unfold sayM at h
  unfold sixE
  repeat' split at h
  all_goals first | (cases h; simp; done) | (cases h; done)
theorem own_errs {M : Wd} {d b : PyData} {e : Er} (h : ownM M d b = .error e) : sixE e := by
  unfold ownM at h
  unfold sixE
  repeat' split at h
  all_goals first | (cases h; simp; done) | (cases h; done)
theorem act_errs {M : Wd} {d : Deed} {e : Er} (h : actM M d = .error e) : e.cls ∈ errs := by
  refine six_cls ?_
  have mp : ∀ {α β : Type} {x : Except Er α} {f : α → β}, x.map f = .error e → x = .error e := fun {α β x f} h => by
    cases x with
    | error e' => cases h; rfl
    | ok a => cases h
  cases d with
  | say n who text => exact say_errs (mp h)
  | tick k who => cases h
  | change n who text =>
    have h := mp h
    unfold changeM at h
    split at h
    · rename_i q
      cases h
      exact own_errs q
    · dsimp only at h
      split at h
      · cases h
      · cases h
        exact .inr (.inr (.inl rfl))
  | strike n who =>
    have h := mp h
    unfold strikeM at h
    split at h
    · rename_i q
      cases h
      exact own_errs q
    · cases h
  | vote n who way =>
    have h := mp h
    unfold voteM at h
    unfold sixE
    repeat' split at h
    all_goals first | (cases h; simp; done) | (cases h; done)
theorem short_text {z : Str} (h : textZ z = true) : Short (.str z) := by
  unfold textZ at h
  simp only [Bool.and_eq_true, decide_eq_true_eq] at h
  show z.length < sizeLine
  rw [sizeLine_eq]
  omega
section
variable {P : Program} {w : World} {K : PySem.W.Frag} {mg : Str → Option Value} {base : Heap}
def spDo (K : PySem.W.Frag) : Sp := fun vs H Q _ => ∃ (L : Lay) (p : Addr) (d : Deed), vs = [.ref L.p, .ref p] ∧ SqT K H p d.tup ∧ WoodAt K H L ∧ Good L.wd ∧ L.ents.length < 64 ∧ DeedOk d ∧ (∀ e ∈ L.ents, e.row.votes.length < 9999) ∧ LamX.Tabs (tabs K) H ∧
  (∀ v M, actM L.wd d = .ok (v, M) → ∀ H' L', WoodAt K H' L' → L'.wd = M → WStep H L H' L' → LamX.Tabs (tabs K) H' → Q v H') ∧
  (∀ e, actM L.wd d = .error e → ∀ r H', LamX.ExtN H H' → LamX.Tabs (tabs K) H' → H' r = some (.tup [.str "refused", .str e.cls]) → Q (.ref r) H')
abbrev N__law_do : List Str := ["wood", "deed", "word", "number", "by"]
theorem sc__law_do : FnScope N__law_do ["wood", "deed"] (defScope s__law_do) := ⟨rfl, rfl, rfl, by decide +kernel, rfl, by decide +kernel, by decide +kernel⟩
theorem be__law_do : BindEq "_law_do" "_law_do" s__law_do ["wood", "deed"] := fun _ _ _ _ _ _ us hl => match us, hl with | [_, _], _ => rfl
theorem D__law_do (T : Txt K mg base) : Def P w K mg base 21 (He.ga K "_law_do") ["wood", "deed"] (spDo K) := by
  refine mk_defC T.f__law_do sc__law_do be__law_do (fun vs H Q E h => ?_) (fun cdv A outer s H vs Q E hcd hr h => ?_)
  · obtain ⟨L, p, d, rfl, _⟩ := h
    rfl
  · obtain ⟨L, p, d, rfl, hp, W, G, lz, ok, vz, hT, k1, k0⟩ := h
    refine ⟨_, (pss_cons (ps_asg (pe_slice sl_tupN (pv 1) po_none (po_some pe_int)) (pg_tup (n := 3) (by rfl) (pgs_cons (pg_name (i := 2) sc__law_do.nd rfl (Or.inl rfl)) (pgs_cons (pg_name (i := 3) sc__law_do.nd rfl (Or.inr rfl)) (pgs_cons (pg_name (i := 4) sc__law_do.nd rfl (Or.inr rfl)) pgs_nil)))))
      (pss_cons (ps_if (pt_cmpR op_eq (pv 2) pe_str (nomark _)) (pss_one (ps_ret (pe_tld (k := 12) (x := "_law_do") T hcd T.tb__law_do (by exact hr.mono (by first | decide | omega)) (LamX.lamS_by (by decide +kernel)) rfl (fun _ _ _ _ _ => rfl) (fun A2 outer2 s2 H2 E2 f2 c2 hr => by exact (pe_md (pv 0) T.c_Wood.c T.m_Wood_say (D_Wood_say T) (by exact hr.mono (by first | decide | omega)) passL (pa_cons (pv 4) (pa_cons (pv 3) (pa_cons (pe_ixT K (pv 1) pe_int) pa_nil)))))))) pss_nil)
      (pss_cons (ps_if (pt_cmpR op_eq (pv 2) pe_str (nomark _)) (pss_one (ps_ret (pe_tld (k := 12) (x := "_law_do") T hcd T.tb__law_do (by exact hr.mono (by first | decide | omega)) (LamX.lamS_by (by decide +kernel)) rfl (fun _ _ _ _ _ => rfl) (fun A2 outer2 s2 H2 E2 f2 c2 hr => by exact (pe_md (pv 0) T.c_Wood.c T.m_Wood_tick (D_Wood_tick T) (by exact hr.mono (by first | decide | omega)) passL (pa_cons (pv 3) pa_nil)))))) pss_nil)
      (pss_cons (ps_if (pt_cmpR op_eq (pv 2) pe_str (nomark _)) (pss_one (ps_ret (pe_tld (k := 12) (x := "_law_do") T hcd T.tb__law_do (by exact hr.mono (by first | decide | omega)) (LamX.lamS_by (by decide +kernel)) rfl (fun _ _ _ _ _ => rfl) (fun A2 outer2 s2 H2 E2 f2 c2 hr => by exact (pe_md (pv 0) T.c_Wood.c T.m_Wood_change (D_Wood_change T) (by exact hr.mono (by first | decide | omega)) passL (pa_cons (pv 3) (pa_cons (pv 4) (pa_cons (pe_ixT K (pv 1) pe_int) pa_nil)))))))) pss_nil)
      (pss_cons (ps_if (pt_cmpR op_eq (pv 2) pe_str (nomark _)) (pss_one (ps_ret (pe_tld (k := 12) (x := "_law_do") T hcd T.tb__law_do (by exact hr.mono (by first | decide | omega)) (LamX.lamS_by (by decide +kernel)) rfl (fun _ _ _ _ _ => rfl) (fun A2 outer2 s2 H2 E2 f2 c2 hr => by exact (pe_md (pv 0) T.c_Wood.c T.m_Wood_strike (D_Wood_strike T) (by exact hr.mono (by first | decide | omega)) passL (pa_cons (pv 3) (pa_cons (pv 4) pa_nil))))))) pss_nil)
      (pss_one (ps_ret (pe_tld (k := 12) (x := "_law_do") T hcd T.tb__law_do (by exact hr.mono (by first | decide | omega)) (LamX.lamS_by (by decide +kernel)) rfl (fun _ _ _ _ _ => rfl) (fun A2 outer2 s2 H2 E2 f2 c2 hr => by exact (pe_md (pv 0) T.c_Wood.c T.m_Wood_vote (D_Wood_vote T) (by exact hr.mono (by first | decide | omega)) passL (pa_cons (pv 3) (pa_cons (pv 4) (pa_cons (pe_ixT K (pv 1) pe_int) pa_nil))))))))))))), ?_⟩
    walk_at "rd"
    refine ⟨p, _, rfl, hp, fun p2 H1 s1 h2 => ?_⟩
    have z30 : (40 : Nat) < sizeLine := by rw [sizeLine_eq]; omega
    have t1 := hT.ext s1
    have W1 := W.same s1
    have ext : ∀ {H2 : Hp}, LamX.ExtN H1 H2 → LamX.ExtN H H2 := fun x => (LamX.ExtN.of s1).trans x
    have tp : ∀ {H2 : Hp}, LamX.ExtN H1 H2 → SqT K H2 p d.tup := fun {H2} x => by
      rcases Same.tup s1 hp with (h | ⟨o, h⟩) | h
      · exact .inl (.inl (x _ _ h (by intro ps z; cases z)))
      · exact .inl (.inr ⟨o, x _ _ h (by intro ps z; cases z)⟩)
      · exact .inr h
    have good : ∀ {H2 : Hp}, LamX.ExtN H1 H2 → LamX.Tabs (tabs K) H2 → ∀ v M, actM L.wd d = .ok (v, M) → ∀ H' L', WoodAt K H' L' → L'.wd = M → Step H2 L H' L' → Q v H' := fun {H2} x t2 v M h H' L' w1 w2 st =>
      k1 v M h H' L' w1 w2 (WStep.of (ext x) st) ((st.k2 (W1.ext x)).tabs t2)
    have bad : ∀ {H2 : Hp}, LamX.ExtN H1 H2 → LamX.Tabs (tabs K) H2 → ∀ e, actM L.wd d = .error e → ∀ H', Same H2 H' → Bad K (eTold K errs Q) e H' := fun {H2} x t2 e h H' s' =>
      ⟨e.cls, act_errs h, rfl, rfl, fun r H'' _ s'' e' => k0 e h r H'' ((ext x).trans (LamX.ExtN.of (s'.trans s''))) (t2.ext (s'.trans s'')) e'⟩
    cases d with
    | say n who text =>
      obtain ⟨nw, tw⟩ := ok.who (.inl rfl)
      refine ⟨p2, rfl, _, h2, rfl, _, _, rfl, _, _, rfl, _, _, rfl, rfl, rfl, ?_⟩
      rw [dq1]
      refine iteT ⟨t1, fun H2 x t2 => ⟨_, _, (W1.ext x).top, fw_no _ _ _ (by decide) (by decide) (by decide), p, _, 3, _, rfl, rfl, tp x, rfl, L, _, _, _, .str who, .int n, .str text, rfl, W1.ext x, G.wf, G.le, .str _, .int _, .str _, short_name nw, rfl, short_text tw, fun k M h => good x t2 _ _ ?_, fun e h => bad x t2 e ?_⟩⟩
      · show (sayM L.wd (.str who) (.int n) (.str text)).map _ = _
        rw [h]
        rfl
      · show (sayM L.wd (.str who) (.int n) (.str text)).map _ = _
        rw [h]
        rfl
    | tick k who =>
      obtain ⟨c0, c1⟩ := ok.tick rfl
      have cc : isCount (.int k) 0 1000 = true := by
        show (decide ((0 : Int) ≤ k) && decide (k ≤ 1000)) = true
        simp
        omega
      refine ⟨p2, rfl, _, h2, rfl, _, _, rfl, _, _, rfl, _, _, rfl, rfl, rfl, ?_⟩
      rw [dq (a := "tick") (b := "say") (by decide)]
      refine iteF ⟨rfl, ?_⟩
      rw [dq1]
      refine iteT ⟨t1, fun H2 x t2 => ⟨_, _, (W1.ext x).top, fw_no _ _ _ (by decide) (by decide) (by decide), L, _, .int k, rfl, W1.ext x, .int _, fun n hn _ H' W' kp => ?_, fun z => by rw [cc] at z; cases z⟩⟩
      cases hn
      exact good x t2 _ _ rfl H' _ W' rfl ⟨rfl, fun b o hb e => kp b o (fun z => hb (by rw [z]; exact List.mem_cons_self)) e, fun b hb => .inl hb⟩
    | change n who text =>
      obtain ⟨nw, tw⟩ := ok.who (.inr rfl)
      refine ⟨p2, rfl, _, h2, rfl, _, _, rfl, _, _, rfl, _, _, rfl, rfl, rfl, ?_⟩
      rw [dq (a := "change") (b := "say") (by decide)]
      refine iteF ⟨rfl, ?_⟩
      rw [dq (a := "change") (b := "tick") (by decide)]
      refine iteF ⟨rfl, ?_⟩
      rw [dq1]
      refine iteT ⟨t1, fun H2 x t2 => ⟨_, _, (W1.ext x).top, fw_no _ _ _ (by decide) (by decide) (by decide), p, _, 3, _, rfl, rfl, tp x, rfl, L, _, _, _, .int n, .str who, .str text, rfl, W1.ext x, .int _, .str _, .str _, short_name nw, short_text tw, fun M h => good x t2 _ _ ?_, fun e h => bad x t2 e ?_⟩⟩
      · show (changeM L.wd (.int n) (.str who) (.str text)).map _ = _
        rw [h]
        rfl
      · show (changeM L.wd (.int n) (.str who) (.str text)).map _ = _
        rw [h]
        rfl
    | strike n who =>
      have nw := ok.strike rfl
      refine ⟨p2, rfl, _, h2, rfl, _, _, rfl, _, _, rfl, _, _, rfl, rfl, rfl, ?_⟩
      rw [dq (a := "strike") (b := "say") (by decide)]
      refine iteF ⟨rfl, ?_⟩
      rw [dq (a := "strike") (b := "tick") (by decide)]
      refine iteF ⟨rfl, ?_⟩
      rw [dq (a := "strike") (b := "change") (by decide)]
      refine iteF ⟨rfl, ?_⟩
      rw [dq1]
      refine iteT ⟨t1, fun H2 x t2 => ⟨_, _, (W1.ext x).top, fw_no _ _ _ (by decide) (by decide) (by decide), L, _, _, .int n, .str who, rfl, W1.ext x, G.wf, lz, .int _, .str _, short_name nw, fun k M h => good x t2 _ _ ?_, fun e h => bad x t2 e ?_⟩⟩
      · show (strikeM L.wd (.int n) (.str who)).map _ = _
        rw [h]
        rfl
      · show (strikeM L.wd (.int n) (.str who)).map _ = _
        rw [h]
        rfl
    | vote n who way =>
      obtain ⟨nw, ww⟩ := ok.vote rfl
      refine ⟨p2, rfl, _, h2, rfl, _, _, rfl, _, _, rfl, _, _, rfl, rfl, rfl, ?_⟩
      rw [dq (a := "vote") (b := "say") (by decide)]
      refine iteF ⟨rfl, ?_⟩
      rw [dq (a := "vote") (b := "tick") (by decide)]
      refine iteF ⟨rfl, ?_⟩
      rw [dq (a := "vote") (b := "change") (by decide)]
      refine iteF ⟨rfl, ?_⟩
      rw [dq (a := "vote") (b := "strike") (by decide)]
      refine iteF ⟨t1, fun H2 x t2 => ⟨_, _, (W1.ext x).top, fw_no _ _ _ (by decide) (by decide) (by decide), p, _, 3, _, rfl, rfl, tp x, rfl, L, _, _, _, .int n, .str who, .int way, rfl, W1.ext x, .int _, .str _, .int _, short_name nw, fun e he => Nat.lt_trans (vz e he) (by decide), fun k M h => good x t2 _ _ ?_, fun e h => bad x t2 e ?_⟩⟩
      · show (voteM L.wd (.int n) (.str who) (.int way)).map _ = _
        rw [h]
        rfl
      · show (voteM L.wd (.int n) (.str who) (.int way)).map _ = _
        rw [h]
        rfl
end
end Vw
namespace Vw
open PySem PySem.Spec PyProof.Rows L2
theorem fold_rep (a : Array Nat) : ∀ (n : Nat) (acc : Array Nat), ((List.replicate n a).foldl (· ++ ·) acc).toList = acc.toList ++ (List.replicate n a.toList).flatten
  | 0, acc => by simp
  | n + 1, acc => by
    rw [List.replicate_succ, List.foldl_cons, fold_rep a n, List.replicate_succ, List.flatten_cons, Array.toList_append, List.append_assoc]
theorem fold_size (a : Array Nat) (n : Nat) : ((List.replicate n a).foldl (· ++ ·) #[]).size = n * a.size := by
  rw [← Array.length_toList, fold_rep]
  simp
/-- text * int -/
def repS (z : Str) (n : Int) : Str := if n < 1 then Str.empty else if (n == 1 || z.length == 0) = true then z else ⟨(List.replicate n.toNat z.cps).foldl (· ++ ·) #[]⟩
def rRepS : R2 := fun x y H Q => ∃ (z : Str) (n : Int), x = .str z ∧ y = .int n ∧ 0 ≤ n ∧ n ≤ 1000 ∧ z.length ≤ 1000 ∧ Q (.str (repS z n)) H
theorem op_rep_str {X : Cx} : OpR X (binaryOp .Mult) rRepS := by
  intro pins s σ H x y v u Q I rx ry h
  obtain ⟨z, n, rfl, rfl, h0, h1, h2, q⟩ := h
  obtain ⟨t, rfl⟩ := rx
  obtain ⟨t', rfl⟩ := ry
  have small : ∀ k : Nat, k ≤ 1000 → z.length * k ≤ 1000000 := fun k hk => Nat.le_trans (Nat.mul_le_mul h2 hk) (by decide)
  refine PySem.P.mul_str ?_ (fun a b => ?_) (fun a b => ?_) ?_
  · rw [decide_eq_false (by omega), decide_eq_false (by omega)]
    rfl
  · have n1 : 1 ≤ n := by omega
    intro g
    have g : ((2 : Int) ^ 63 - 1) / n < (z.length : Int) := g
    rw [Int.ediv_lt_iff_lt_mul (by omega)] at g
    have m1 : (z.length : Int) * n ≤ 1000 * 1000 := Int.mul_le_mul (by omega) h1 (by omega) (by omega)
    omega
  · have m1 := small n.toNat (by omega)
    unfold PySem.Builtin.Str.tooLong
    rw [sizeLine_eq]
    exact decide_eq_false (by omega)
  · have fin : ∀ {y : Str}, y.length ≤ sizeLine → Q (.str y) H → (Made.str y).post (EP X pins σ Q) s := fun {y} hy qy => ⟨hy, .str y, H, I.tok _, ⟨_, rfl⟩, qy⟩
    unfold repS at q
    by_cases c1 : n < 1
    · rw [if_pos c1] at q ⊢
      exact fin (Nat.zero_le _) q
    · rw [if_neg c1] at q ⊢
      by_cases c2 : (n == 1 || z.length == 0) = true
      · rw [if_pos c2] at q ⊢
        exact ⟨.str z, H, I, ⟨_, rfl⟩, q⟩
      · rw [if_neg c2] at q ⊢
        refine fin ?_ q
        show ((List.replicate n.toNat z.cps).foldl (· ++ ·) #[]).size ≤ sizeLine
        rw [fold_size, sizeLine_eq, Nat.mul_comm]
        have m1 := small n.toNat (by omega)
        have m1 : z.cps.size * n.toNat ≤ 1000000 := m1
        omega
end Vw
namespace Vw
open PySem PySem.Spec PyProof.Rows L2
local macro_rules | `(tactic| walk_at "rd") => `(tactic| simp only [tSeq, tNext, tIfS, tAsg, tRet, tRetN, tDrop, tVar, tC, tOp, tUn, tTest, tB, tAnd, tOr, tNot, tAndV, tOrV, tNotV, tIf, tChain, tCB, tCons, tNil, tCall, tMeth, tMake, tFld, sFld, tTup, tLst, tTupS, tLstS, tDNewKS, tDNewTS, tTold, tCmp, t2I, tIsN, tNotN, tPar, gName, gNil, gCons, gTup, gSub, rI0, rU, rEq, rNe, tDGet, tDIn, tDNotIn, sDPut, tDNewK, tDGet1, tDGet2, tDPop1, tDPop2, tBM, tBM0, tM0, tM1, tSl, tPart, tNoPart, tBreak, tCont, tThru, L2.start, List.map_cons, List.map_nil, List.length_cons, List.length_nil, List.cons_append, List.nil_append, List.append_nil, List.replicate_succ, List.replicate_zero, Nat.reduceAdd, Nat.reduceSub, Nat.zero_add, List.getElem?_cons_zero, List.getElem?_cons_succ, List.set_cons_zero, List.set_cons_succ, wipe, cxOf_K, tYes, List.cons.injEq, and_self, Option.some.injEq, V.int.injEq, V.bl.injEq, V.ref.injEq, V.str.injEq, exists_eq_left', exists_eq_left, exists_and_left, and_assoc, true_and, and_true, if_true, if_false, ite_true, ite_false, Bool.not_true, Bool.not_false, Bool.false_eq_true, reduceIte])
theorem more_abs {c : Int} (h : 0 ≤ c ∧ c < 340282366920938463463374607431768211507) : c.natAbs < 2 ^ bigB :=
  Nat.lt_of_lt_of_le (abs_lt h.1 (Int.lt_trans h.2 (by decide : (340282366920938463463374607431768211507 : Int) < 2 ^ 129))) (Nat.pow_le_pow_right (by omega) (by unfold bigB; omega))
def sm (i : Int) : Nat := (small[i.toNat]?).getD 97
theorem sm_at {i : Int} (h0 : 0 ≤ i) (h1 : i < 26) : atI (Str.ofString "abcdefghijklmnopqrstuvwxyz").cps.toList i = some (sm i) := by
  have l : small.length = 26 := by decide +kernel
  rw [atI_nn h0 (by show i < ((small.length : Nat) : Int); rw [l]; exact h1)]
  unfold sm
  show small[i.toNat]? = _
  rw [List.getElem?_eq_getElem (by rw [l]; omega)]
  rfl
theorem sm_mem {i : Int} (h0 : 0 ≤ i) (h1 : i < 26) : sm i ∈ small := by
  have l : small.length = 26 := by decide +kernel
  unfold sm
  rw [List.getElem?_eq_getElem (by rw [l]; omega)]
  exact List.getElem_mem _
theorem joinL_nil : ∀ l : List Nat, TL.joinL [] (l.map fun c => [c]) = l
  | [] => rfl
  | [a] => rfl
  | a :: b :: r => by
    show [a] ++ ([] ++ TL.joinL [] ((b :: r).map fun c => [c])) = _
    rw [joinL_nil (b :: r)]
    rfl
theorem join_chars {l : List Nat} (f : Nat → Nat) : Txt.join (Str.ofString "") (l.map fun i : Nat => (⟨#[f i]⟩ : Str)) = ⟨(l.map f).toArray⟩ := by
  have e : (l.map fun i : Nat => (⟨#[f i]⟩ : Str)) = ((l.map f).map fun c => [c]).map SX.S := by
    rw [List.map_map, List.map_map]
    rfl
  have e0 : (Str.ofString "") = SX.S [] := by decide +kernel
  rw [e, e0, SX.join_S, joinL_nil]
theorem name_chars {l : List Nat} (h1 : 1 ≤ l.length) (h6 : l.length ≤ 6) (h : ∀ c ∈ l, c ∈ small) : nameZ ⟨l.toArray⟩ = true := by
  unfold nameZ
  have e : (⟨l.toArray⟩ : Str).length = l.length := by show l.toArray.size = _; simp
  rw [e, decide_eq_true h1, decide_eq_true h6]
  show (l.all fun c => decide (c ∈ small)) = true
  exact List.all_eq_true.mpr fun c hc => decide_eq_true (h c hc)
section
variable {P : Program} {w : World} {K : PySem.W.Frag} {mg : Str → Option Value} {base : Heap}
def drawR (x : Int) : Prop := 0 ≤ x ∧ x < 340282366920938463463374607431768211507
def spAnyName : Sp := fun vs H Q _ => ∃ more most : Int, vs = [.int more, .int most] ∧ drawR more ∧ 1 ≤ most ∧ most ≤ 6 ∧ ∀ z H', nameZ z = true → Same H H' → Q (.str z) H'
abbrev N__law_any_name : List Str := ["more", "most", "j"]
theorem sc__law_any_name : FnScope N__law_any_name ["more", "most"] (defScope s__law_any_name) := ⟨rfl, rfl, rfl, by decide +kernel, rfl, by decide +kernel, by decide +kernel⟩
theorem be__law_any_name : BindEq "_law_any_name" "_law_any_name" s__law_any_name ["more", "most"] := fun _ _ _ _ _ _ us hl => match us, hl with | [_, _], _ => rfl
theorem D__law_any_name (T : Txt K mg base) : Def P w K mg base 2 (He.ga K "_law_any_name") ["more", "most"] spAnyName := by
  refine mk_def T.f__law_any_name sc__law_any_name be__law_any_name (fun vs H Q E h => ?_) (fun cdv A outer s H vs Q E hr h => ?_)
  · obtain ⟨a, b, rfl, _⟩ := h
    rfl
  · obtain ⟨more, most, rfl, dr, m1, m6, k⟩ := h
    refine ⟨_, (pss_one (ps_ret (pe_join pe_str (pe_lc (own := [("j", 2)]) (g := gName 2) rfl sc__law_any_name.nd (pi_range1 (by rfl) T.b_range (pa_cons (pe_op op_add pe_int (pe_op op_mod (pv 0) (pv 1))) pa_nil)) (blkOk_by (N := N__law_any_name) (sc := defScope s__law_any_name) (by decide +kernel)) (fun _ _ _ _ _ => by exact (pg_name (i := 2) sc__law_any_name.nd rfl (Or.inl rfl))) (fun _ _ _ _ _ => pts_nil) (fun _ _ _ _ _ => by exact (pe_ix ix_str pe_str (pe_op op_mod (pe_cd (D__law_drawn T) (by exact hr.mono (by first | decide | omega)) T.g__law_drawn passF (pa_cons (pv 0) (pa_cons (pv 2) pa_nil))) pe_int) (fun _ _ => rfl))))))), ?_⟩
    walk_at "rd"
    have r0 : 0 ≤ more % most := Int.emod_nonneg _ (by omega)
    have r1 : more % most < most := Int.emod_lt_of_pos _ (by omega)
    refine ⟨⟨_, rfl⟩, lcR (n := 1 + more % most) (fun i => some (.str ⟨#[sm (drawM more i % 26)]⟩)) (fun R h => ?_) (by omega) (fun i H' hi s1 N1 N0 h1 h0 => ?_) (fun D H' nD s1 eD => ?_)⟩
    · walk_at "rd"
      exact useI (by omega) ⟨_, rfl, h⟩
    · walk_at "rd"
      have d0 : 0 ≤ drawM more i % 26 := Int.emod_nonneg _ (by decide)
      have d1 : drawM more i % 26 < 26 := Int.emod_lt_of_pos _ (by decide)
      refine ⟨more, i, rfl, more_abs dr, Nat.lt_trans (show (i : Int).natAbs < 2 ^ 10 by omega) (by decide), useI (by decide) ⟨_, _, _, rfl, rfl, by show 26 ≤ sizeLine; rw [sizeLine_eq]; omega, sm_at d0 d1, h1 _ _ (Same.refl _) rfl⟩⟩
    · have el : (List.range (1 + more % most).toNat).filterMap (fun i : Nat => some (V.str ⟨#[sm (drawM more i % 26)]⟩)) = ((List.range (1 + more % most).toNat).map fun i : Nat => (⟨#[sm (drawM more i % 26)]⟩ : Str)).map V.str := by
        rw [List.filterMap_eq_map', List.map_map]
        rfl
      rw [el] at eD
      refine ⟨D, rfl, _, .inl (SqL.of eD), ?_, k _ H' ?_ s1⟩
      · have : ∀ l : List Nat, ((l.map fun i : Nat => (⟨#[sm (drawM more i % 26)]⟩ : Str)).map (·.length)).sum = l.length := fun l => by
          induction l with
          | nil => rfl
          | cons a r ih =>
            rw [List.map_cons, List.map_cons, List.sum_cons, ih]
            show 1 + r.length = r.length + 1
            omega
        rw [this, List.length_range, List.length_map, List.length_range]
        have z : (Str.ofString "").length = 0 := by decide +kernel
        rw [z]
        omega
      · rw [join_chars]
        have ln : (1 + more % most).toNat ≤ 6 ∧ 1 ≤ (1 + more % most).toNat := by omega
        exact name_chars (by rw [List.length_map, List.length_range]; omega) (by rw [List.length_map, List.length_range]; omega) fun c hc => by
          obtain ⟨i, _, rfl⟩ := List.mem_map.mp hc
          exact sm_mem (Int.emod_nonneg _ (by decide)) (Int.emod_lt_of_pos _ (by decide))
end
end Vw
namespace Vw
open PySem PySem.Spec PyProof.Rows L2
local macro_rules | `(tactic| walk_at "rd") => `(tactic| simp only [tSeq, tNext, tIfS, tAsg, tRet, tRetN, tDrop, tVar, tC, tOp, tUn, tTest, tB, tAnd, tOr, tNot, tAndV, tOrV, tNotV, tIf, tChain, tCB, tCons, tNil, tCall, tMeth, tMake, tFld, sFld, tTup, tLst, tTupS, tLstS, tDNewKS, tDNewTS, tTold, tCmp, t2I, tIsN, tNotN, tPar, gName, gNil, gCons, gTup, gSub, rI0, rU, rEq, rNe, tDGet, tDIn, tDNotIn, sDPut, tDNewK, tDGet1, tDGet2, tDPop1, tDPop2, tBM, tBM0, tM0, tM1, tSl, tPart, tNoPart, tBreak, tCont, tThru, L2.start, List.map_cons, List.map_nil, List.length_cons, List.length_nil, List.cons_append, List.nil_append, List.append_nil, List.replicate_succ, List.replicate_zero, Nat.reduceAdd, Nat.reduceSub, Nat.zero_add, List.getElem?_cons_zero, List.getElem?_cons_succ, List.set_cons_zero, List.set_cons_succ, wipe, cxOf_K, tYes, List.cons.injEq, and_self, Option.some.injEq, V.int.injEq, V.bl.injEq, V.ref.injEq, V.str.injEq, exists_eq_left', exists_eq_left, exists_and_left, and_assoc, true_and, and_true, if_true, if_false, ite_true, ite_false, Bool.not_true, Bool.not_false, Bool.false_eq_true, reduceIte])
def signs : List Nat := (Str.ofString " !\"#$&'()*+,-./0123456789:;<=>?@ABCDEFGHIJKLMNOPQRSTUVWXYZ[\\]^_`abcdefghijklmnopqrstuvwxyz{|}~").cps.toList
def sg (i : Int) : Nat := (signs[i.toNat]?).getD 97
theorem signs_len : signs.length = 94 := by decide +kernel
theorem signs_ok : ∀ c ∈ signs, signOk c = true := by decide +kernel
theorem sg_at {i : Int} (h0 : 0 ≤ i) (h1 : i < 94) : atI signs i = some (sg i) := by
  have l := signs_len
  rw [atI_nn h0 (by rw [l]; exact h1)]
  unfold sg
  rw [List.getElem?_eq_getElem (by rw [l]; omega)]
  rfl
theorem sg_ok {i : Int} (h0 : 0 ≤ i) (h1 : i < 94) : signOk (sg i) = true := by
  have l := signs_len
  unfold sg
  rw [List.getElem?_eq_getElem (by rw [l]; omega)]
  exact signs_ok _ (List.getElem_mem _)
section
variable {P : Program} {w : World} {K : PySem.W.Frag} {mg : Str → Option Value} {base : Heap}
def spAnyText : Sp := fun vs H Q _ => ∃ more most : Int, vs = [.int more, .int most] ∧ drawR more ∧ 0 ≤ most ∧ most ≤ 29 ∧ ∀ (l : List Nat) H', l.length ≤ 29 → (∀ c ∈ l, signOk c = true) → Same H H' → Q (.str ⟨l.toArray⟩) H'
abbrev N__law_any_text : List Str := ["more", "most", "signs", "j"]
theorem sc__law_any_text : FnScope N__law_any_text ["more", "most"] (defScope s__law_any_text) := ⟨rfl, rfl, rfl, by decide +kernel, rfl, by decide +kernel, by decide +kernel⟩
theorem be__law_any_text : BindEq "_law_any_text" "_law_any_text" s__law_any_text ["more", "most"] := fun _ _ _ _ _ _ us hl => match us, hl with | [_, _], _ => rfl
theorem D__law_any_text (T : Txt K mg base) : Def P w K mg base 2 (He.ga K "_law_any_text") ["more", "most"] spAnyText := by
  refine mk_def T.f__law_any_text sc__law_any_text be__law_any_text (fun vs H Q E h => ?_) (fun cdv A outer s H vs Q E hr h => ?_)
  · obtain ⟨a, b, rfl, _⟩ := h
    rfl
  · obtain ⟨more, most, rfl, dr, m1, m6, k⟩ := h
    refine ⟨_, (pss_cons (ps_set (i := 2) sc__law_any_text.nd rfl (Or.inr rfl) pe_str)
      (pss_one (ps_ret (pe_join pe_str (pe_lc (own := [("j", 3)]) (g := gName 3) rfl sc__law_any_text.nd (pi_range1 (by rfl) T.b_range (pa_cons (pe_op op_mod (pv 0) (pe_op op_add (pv 1) pe_int)) pa_nil)) (blkOk_by (N := N__law_any_text) (sc := defScope s__law_any_text) (by decide +kernel)) (fun _ _ _ _ _ => by exact (pg_name (i := 3) sc__law_any_text.nd rfl (Or.inl rfl))) (fun _ _ _ _ _ => pts_nil) (fun _ _ _ _ _ => by exact (pe_ix ix_str (pv 2) (pe_op op_mod (pe_cd (D__law_drawn T) (by exact hr.mono (by first | decide | omega)) T.g__law_drawn passF (pa_cons (pv 0) (pa_cons (pv 3) pa_nil))) pe_int) (fun _ _ => rfl)))))))), ?_⟩
    walk_at "rd"
    have r0 : 0 ≤ more % (most + 1) := Int.emod_nonneg _ (by omega)
    have r1 : more % (most + 1) < most + 1 := Int.emod_lt_of_pos _ (by omega)
    refine ⟨⟨_, rfl⟩, lcR (n := more % (most + 1)) (fun i => some (.str ⟨#[sg (drawM more i % 94)]⟩)) (fun R h => ?_) (by omega) (fun i H' hi s1 N1 N0 h1 h0 => ?_) (fun D H' nD s1 eD => ?_)⟩
    · walk_at "rd"
      exact useI (by omega) h
    · walk_at "rd"
      have d0 : 0 ≤ drawM more i % 94 := Int.emod_nonneg _ (by decide)
      have d1 : drawM more i % 94 < 94 := Int.emod_lt_of_pos _ (by decide)
      refine ⟨more, i, rfl, more_abs dr, Nat.lt_trans (show (i : Int).natAbs < 2 ^ 10 by omega) (by decide), useI (by decide) ⟨_, _, _, rfl, rfl, by show 94 ≤ sizeLine; rw [sizeLine_eq]; omega, sg_at d0 d1, h1 _ _ (Same.refl _) rfl⟩⟩
    · have el : (List.range (more % (most + 1)).toNat).filterMap (fun i : Nat => some (V.str ⟨#[sg (drawM more i % 94)]⟩)) = ((List.range (more % (most + 1)).toNat).map fun i : Nat => (⟨#[sg (drawM more i % 94)]⟩ : Str)).map V.str := by
        rw [List.filterMap_eq_map', List.map_map]
        rfl
      rw [el] at eD
      have fin := k ((List.range (more % (most + 1)).toNat).map fun i : Nat => sg (drawM more i % 94)) H' (by rw [List.length_map, List.length_range]; omega) (fun c hc => by
        obtain ⟨i, _, rfl⟩ := List.mem_map.mp hc
        exact sg_ok (Int.emod_nonneg _ (by decide)) (Int.emod_lt_of_pos _ (by decide))) s1
      refine ⟨D, rfl, _, .inl (SqL.of eD), ?_, ?_⟩
      · have : ∀ l : List Nat, ((l.map fun i : Nat => (⟨#[sg (drawM more i % 94)]⟩ : Str)).map (·.length)).sum = l.length := fun l => by
          induction l with
          | nil => rfl
          | cons a r ih =>
            rw [List.map_cons, List.map_cons, List.sum_cons, ih]
            show 1 + r.length = r.length + 1
            omega
        rw [this, List.length_range, List.length_map, List.length_range]
        have z : (Str.ofString "").length = 0 := by decide +kernel
        rw [z]
        omega
      · rw [join_chars]
        exact fin
theorem textZ_of {l : List Nat} (h1 : 1 ≤ l.length) (h30 : l.length ≤ 30) (h : ∀ c ∈ l, signOk c = true) : textZ ⟨l.toArray⟩ = true := by
  unfold textZ
  have e : (⟨l.toArray⟩ : Str).length = l.length := by show l.toArray.size = _; simp
  rw [e, decide_eq_true h1, decide_eq_true h30]
  show (l.all signOk) = true
  exact List.all_eq_true.mpr h
theorem use_div {i j : Int} {H : Hp} {Q : VK} (q : Q (.int (i / j)) H) (h : 0 < j := by decide) (hb : j.natAbs < 2 ^ 64 := by decide) : rI CDivW (fun i j => V.int (i / j)) (.int i) (.int j) H Q := useI (wide_div (b := 64) h hb (by decide) (by decide)) q
theorem use_mod {i j : Int} {H : Hp} {Q : VK} (q : Q (.int (i % j)) H) (h : 0 < j := by decide) : rI (fun _ j => 0 < j) (fun i j => V.int (i % j)) (.int i) (.int j) H Q := useI h q
theorem use_pow {i j : Int} {H : Hp} {Q : VK} (q : Q (.int (i ^ j.toNat)) H) (h : CPow i j := by exact ⟨by decide, by decide, by decide⟩) : rI CPow (fun i j => V.int (i ^ j.toNat)) (.int i) (.int j) H Q := useI h q
theorem atI_ex {xs : List Int} {i : Int} (h0 : 0 ≤ i) (h1 : i < xs.length) : ∃ n ∈ xs, atI (xs.map V.int) i = some (.int n) := by
  have l : i.toNat < xs.length := by omega
  refine ⟨xs[i.toNat], List.getElem_mem l, ?_⟩
  rw [atI_nn h0 (by rw [List.length_map]; exact h1), List.getElem?_map, List.getElem?_eq_getElem l]
  rfl
theorem rep_text {c : Nat} {n : Int} (hc : signOk c = true) (h1 : 1 ≤ n) (h30 : n ≤ 30) : textZ (repS ⟨#[c]⟩ n) = true := by
  unfold repS
  rw [if_neg (by omega)]
  split
  · exact textZ_of (l := [c]) (by show 1 ≤ 1; omega) (by show 1 ≤ 30; omega) fun x hx => by
      rw [List.mem_singleton.mp hx]
      exact hc
  · have e : ((List.replicate n.toNat (⟨#[c]⟩ : Str).cps).foldl (· ++ ·) #[]) = (List.replicate n.toNat c).toArray := by
      apply Array.ext'
      rw [fold_rep]
      show [] ++ (List.replicate n.toNat [c]).flatten = List.replicate n.toNat c
      simp
    rw [e]
    exact textZ_of (by rw [List.length_replicate]; omega) (by rw [List.length_replicate]; omega) fun x hx => by
      rw [(List.mem_replicate.mp hx).2]
      exact hc
theorem app_text {l : List Nat} (hl : l.length ≤ 29) (h : ∀ c ∈ l, signOk c = true) : textZ ((⟨l.toArray⟩ : Str) ++ Str.ofString "x") = true := by
  have e : ((⟨l.toArray⟩ : Str) ++ Str.ofString "x") = ⟨(l ++ [120]).toArray⟩ := by
    have e1 : Str.ofString "x" = ⟨[120].toArray⟩ := by decide +kernel
    rw [e1]
    show (⟨l.toArray ++ [120].toArray⟩ : Str) = _
    simp
  rw [e]
  exact textZ_of (by simp) (by simp; omega) fun c hc => by
    rcases List.mem_append.mp hc with hc | hc
    · exact h c hc
    · rw [List.mem_singleton.mp hc]
      decide
theorem five30 (i : Int) : ∃ m, atI [V.int 5, V.int 30] (i % 2) = some (.int m) ∧ 1 ≤ m ∧ m ≤ 30 := by
  have h : i % 2 = 0 ∨ i % 2 = 1 := by omega
  rcases h with h | h <;> rw [h]
  · exact ⟨5, rfl, by decide, by decide⟩
  · exact ⟨30, rfl, by decide, by decide⟩
theorem ways5 (i : Int) : ∃ m, atI [V.int 1, V.int (-1), V.int 1, V.int (-1), V.int 0] (i % 5) = some (.int m) ∧ (m = 1 ∨ m = -1 ∨ m = 0) := by
  have h : i % 5 = 0 ∨ i % 5 = 1 ∨ i % 5 = 2 ∨ i % 5 = 3 ∨ i % 5 = 4 := by omega
  rcases h with h | h | h | h | h <;> rw [h]
  · exact ⟨1, rfl, by decide⟩
  · exact ⟨-1, rfl, by decide⟩
  · exact ⟨1, rfl, by decide⟩
  · exact ⟨-1, rfl, by decide⟩
  · exact ⟨0, rfl, by decide⟩
theorem ticks5 (i : Int) : ∃ m, atI [V.int 0, V.int 1, V.int 7, V.int 30, V.int 1000] (i % 5) = some (.int m) ∧ 0 ≤ m ∧ m ≤ 1000 := by
  have h : i % 5 = 0 ∨ i % 5 = 1 ∨ i % 5 = 2 ∨ i % 5 = 3 ∨ i % 5 = 4 := by omega
  rcases h with h | h | h | h | h <;> rw [h]
  · exact ⟨0, rfl, by decide⟩
  · exact ⟨1, rfl, by decide⟩
  · exact ⟨7, rfl, by decide⟩
  · exact ⟨30, rfl, by decide⟩
  · exact ⟨1000, rfl, by decide⟩
theorem names6 (i : Int) : ∃ b, atI [V.str (Str.ofString "ann"), V.str (Str.ofString "bob"), V.str (Str.ofString "cy"), V.str (Str.ofString "dd"), V.str (Str.ofString "eve"), V.str (Str.ofString "fay")] (i % 6) = some (.str b) ∧ nameZ b = true := by
  have h : i % 6 = 0 ∨ i % 6 = 1 ∨ i % 6 = 2 ∨ i % 6 = 3 ∨ i % 6 = 4 ∨ i % 6 = 5 := by omega
  rcases h with h | h | h | h | h | h <;> rw [h]
  · exact ⟨"ann", rfl, by decide +kernel⟩
  · exact ⟨"bob", rfl, by decide +kernel⟩
  · exact ⟨"cy", rfl, by decide +kernel⟩
  · exact ⟨"dd", rfl, by decide +kernel⟩
  · exact ⟨"eve", rfl, by decide +kernel⟩
  · exact ⟨"fay", rfl, by decide +kernel⟩
theorem signs8 (i : Int) : ∃ c, atI (Str.ofString "abc XY~!").cps.toList (i % 8) = some c ∧ signOk c = true := by
  have e : (Str.ofString "abc XY~!").cps.toList = [97, 98, 99, 32, 88, 89, 126, 33] := by decide +kernel
  rw [e]
  have h : i % 8 = 0 ∨ i % 8 = 1 ∨ i % 8 = 2 ∨ i % 8 = 3 ∨ i % 8 = 4 ∨ i % 8 = 5 ∨ i % 8 = 6 ∨ i % 8 = 7 := by omega
  rcases h with h | h | h | h | h | h | h | h <;> rw [h]
  all_goals exact ⟨_, rfl, by decide⟩
theorem deed_say {n : Int} {who text : Str} (h1 : nameZ who = true) (h2 : textZ text = true) : DeedOk (.say n who text) := by
  constructor
  · rintro n' who' text' (h | h) <;> cases h
    exact ⟨h1, h2⟩
  all_goals intros; rename_i h; cases h
theorem deed_change {n : Int} {who text : Str} (h1 : nameZ who = true) (h2 : textZ text = true) : DeedOk (.change n who text) := by
  constructor
  · rintro n' who' text' (h | h) <;> cases h
    exact ⟨h1, h2⟩
  all_goals intros; rename_i h; cases h
theorem deed_tick {k : Int} {who : Str} (h1 : 0 ≤ k) (h2 : k ≤ 1000) (h3 : nameZ who = true) : DeedOk (.tick k who) := by
  constructor
  · rintro n' who' text' (h | h) <;> cases h
  · intro k' who' h
    cases h
    exact ⟨h1, h2⟩
  · intro k' who' h
    cases h
    exact h3
  all_goals intros; rename_i h; cases h
theorem deed_strike {n : Int} {who : Str} (h1 : nameZ who = true) : DeedOk (.strike n who) := by
  constructor
  · rintro n' who' text' (h | h) <;> cases h
  · intros; rename_i h; cases h
  · intros; rename_i h; cases h
  · intro k' who' h
    cases h
    exact h1
  · intros; rename_i h; cases h
theorem deed_vote {n way : Int} {who : Str} (h1 : nameZ who = true) (h2 : way = 1 ∨ way = -1 ∨ way = 0) : DeedOk (.vote n who way) := by
  constructor
  · rintro n' who' text' (h | h) <;> cases h
  · intros; rename_i h; cases h
  · intros; rename_i h; cases h
  · intros; rename_i h; cases h
  · intro n' who' way' h
    cases h
    exact ⟨h1, h2⟩
def NamesOk (O : OLay) : Prop := ∀ e ∈ O.ents, nameZ e.row.who = true
def spDeed : Sp := fun vs H Q _ => ∃ (O : OLay) (more : Int), vs = [.int more, .ref O.p] ∧ drawR more ∧ OwnAt H O ∧ NamesOk O ∧ ∀ d p H', DeedOk d → H p = none → Same H H' → H' p = some (.tup d.tup) → Q (.ref p) H'
abbrev N__law_deed : List Str := ["more", "own", "here", "names", "numbers", "number", "by", "text", "way"]
theorem sc__law_deed : FnScope N__law_deed ["more", "own"] (defScope s__law_deed) := ⟨rfl, rfl, rfl, by decide +kernel, rfl, by decide +kernel, by decide +kernel⟩
theorem be__law_deed : BindEq "_law_deed" "_law_deed" s__law_deed ["more", "own"] := fun _ _ _ _ _ _ us hl => match us, hl with | [_, _], _ => rfl
theorem D__law_deed (T : Txt K mg base) : Def P w K mg base 3 (He.ga K "_law_deed") ["more", "own"] spDeed := by
  refine mk_def T.f__law_deed sc__law_deed be__law_deed (fun vs H Q E h => ?_) (fun cdv A outer s H vs Q E hr h => ?_)
  · obtain ⟨a, b, rfl, _⟩ := h
    rfl
  · obtain ⟨O, more, rfl, dr, W, nm, k⟩ := h
    refine ⟨_, (pss_cons (ps_set (i := 2) sc__law_deed.nd rfl (Or.inl rfl) (pe_op op_fdivW (pv 0) pe_int))
      (pss_cons (ps_set (i := 3) sc__law_deed.nd rfl (Or.inl rfl) (pe_lstS (pa_cons pe_str (pa_cons pe_str (pa_cons pe_str (pa_cons pe_str (pa_cons pe_str (pa_cons pe_str pa_nil))))))))
      (pss_cons (ps_set (i := 4) sc__law_deed.nd rfl (Or.inl rfl) (pe_op op_catN (pe_callB (call_sortedDN rfl) (by rfl) T.b_sorted (by decide +kernel) (pa_cons (pe_dg (pv 1) pe_str (by exact hu_of hr)) pa_nil)) (pe_lstS (pa_cons (pe_op op_add (pe_dg (pv 1) pe_str (by exact hu_of hr)) pe_int) pa_nil))))
      (pss_cons (ps_par (i := 5) (j := 6) (by rfl) sc__law_deed.nd rfl rfl (by decide) rfl rfl (pa_cons (pe_ix ix_list (pv 4) (pe_op op_mod (pv 2) (pe_callB call_len_seq (by rfl) T.b_len (by decide +kernel) (pa_cons (pv 4) pa_nil))) (fun _ _ => rfl)) (pa_cons (pe_ix ix_list (pv 3) (pe_op op_mod (pe_op op_fdivW (pv 2) pe_int) pe_int) (fun _ _ => rfl)) pa_nil)) (by rfl))
      (pss_cons (ps_set (i := 7) sc__law_deed.nd rfl (Or.inl rfl) (pe_op op_rep_str (pe_ix ix_str pe_str (pe_op op_mod (pe_op op_fdivW (pv 2) pe_int) pe_int) (fun _ _ => rfl)) (pe_op op_add pe_int (pe_op op_mod (pe_op op_fdivW (pv 2) pe_int) (pe_ix ix_list (pe_lstS (pa_cons pe_int (pa_cons pe_int pa_nil))) (pe_op op_mod (pe_op op_fdivW (pv 2) (pe_op op_pow pe_int pe_int)) pe_int) (fun _ _ => rfl))))))
      (C8.pss_cut (ps_if (PW.pt (pw_and (pt_cmpR op_eq (pe_op op_mod (pe_op op_fdivW (pv 2) (pe_op op_pow pe_int pe_int)) pe_int) pe_int (nomark _)) (pw_and1 (pt_cmpR op_ne (pe_op op_mod (pv 0) pe_int) pe_int (nomark _))))) (pss_one (ps_set (i := 7) sc__law_deed.nd rfl (Or.inl rfl) (pe_op op_add_str (pe_cd (D__law_any_text T) (by exact hr.mono (by first | decide | omega)) T.g__law_any_text passE (pa_cons (pe_op op_fdivW (pv 2) (pe_op op_pow pe_int pe_int)) (pa_cons pe_int pa_nil))) pe_str))) pss_nil)
      (C8.pss_cut (ps_if (pt_cmpR op_eq (pe_op op_mod (pe_op op_fdivW (pv 2) (pe_op op_pow pe_int pe_int)) pe_int) pe_int (nomark _)) (pss_one (ps_set (i := 6) sc__law_deed.nd rfl (Or.inl rfl) (pe_cd (D__law_any_name T) (by exact hr.mono (by first | decide | omega)) T.g__law_any_name passE (pa_cons (pe_op op_fdivW (pv 2) (pe_op op_pow pe_int pe_int)) (pa_cons pe_int pa_nil))))) pss_nil)
      (pss_cons (ps_set (i := 8) sc__law_deed.nd rfl (Or.inl rfl) (pe_op op_mod (pv 0) pe_int))
      (pss_cons (ps_if (pt_cmpR op_lt (pv 8) pe_int (nomark _)) (pss_one (ps_ret (pe_tupS (pa_cons pe_str (pa_cons (pe_ifExp (pt_cmpR op_lt (pv 8) pe_int (nomark _)) pe_int (pv 5)) (pa_cons (pv 6) (pa_cons (pv 7) pa_nil))))))) pss_nil)
      (pss_cons (ps_if (pt_cmpR op_lt (pv 8) pe_int (nomark _)) (pss_one (ps_ret (pe_tupS (pa_cons pe_str (pa_cons (pv 5) (pa_cons (pv 6) (pa_cons (pe_ix ix_list (pe_lstS (pa_cons pe_int (pa_cons (pe_un un_neg pe_int) (pa_cons pe_int (pa_cons (pe_un un_neg pe_int) (pa_cons pe_int pa_nil)))))) (pe_op op_mod (pe_op op_fdivW (pv 2) (pe_op op_pow pe_int pe_int)) pe_int) (fun _ _ => rfl)) pa_nil))))))) pss_nil)
      (pss_cons (ps_if (pt_cmpR op_eq (pv 8) pe_int (nomark _)) (pss_one (ps_ret (pe_tupS (pa_cons pe_str (pa_cons (pe_ix ix_list (pe_lstS (pa_cons pe_int (pa_cons pe_int (pa_cons pe_int (pa_cons pe_int (pa_cons pe_int pa_nil)))))) (pe_op op_mod (pe_op op_fdivW (pv 2) (pe_op op_pow pe_int pe_int)) pe_int) (fun _ _ => rfl)) (pa_cons (pv 6) pa_nil)))))) pss_nil)
      (C8.pss_cut (ps_if (PW.pt (pw_and (pt_cmp (pc_di (pv 5) (pe_dg (pv 1) pe_str (by exact hu_of hr)) (by exact hu_of hr))) (pw_and1 (pt_cmpR op_gt (pe_op op_mod (pe_op op_fdivW (pv 2) (pe_op op_pow pe_int pe_int)) pe_int) pe_int (nomark _))))) (pss_one (ps_set (i := 6) sc__law_deed.nd rfl (Or.inl rfl) (pe_dg (pe_dg (pe_dg (pv 1) pe_str (by exact hu_of hr)) (pv 5) (by exact hu_of hr)) pe_str (by exact hu_of hr)))) pss_nil)
      (pss_one (ps_ret (pe_ifExp (pt_cmpR op_lt (pv 8) pe_int (nomark _)) (pe_tupS (pa_cons pe_str (pa_cons (pv 5) (pa_cons (pv 6) pa_nil)))) (pe_tupS (pa_cons pe_str (pa_cons (pv 5) (pa_cons (pv 6) (pa_cons (pv 7) pa_nil)))))))))))))))))))), ?_⟩
    walk_at "rd"
    have z9 : (1000 : Nat) < sizeLine := by rw [sizeLine_eq]; omega
    have keys : (O.ents.map oK).map (·.1) = (O.ents.map (·.n)).map Sum.inl := by
      rw [List.map_map, List.map_map]
      rfl
    have sz := W.rd.sz
    have m0 : 0 ≤ more := dr.1
    refine use_div ⟨by omega, fun nl H1 n1 s1 e1 => ⟨_, g_rows (W.same s1).rd.top, _, _, _, rfl, .inl (W.same s1).dic, keys, by rw [List.length_map]; exact sz, fun ys hy _ p2 H2 n2 s2 e2 => ?_⟩⟩
    have W2 := W.same (s1.trans s2)
    have yl : ys.length < 64 := by
      rw [hy.length_eq, List.length_map]
      exact sz
    refine ⟨_, g_came W2.rd.top, _, rfl, by omega, fun p3 H3 n3 s3 e3 => ⟨p2, p3, _, _, rfl, rfl, s3 _ _ e2, e3, by rw [List.length_map]; show ys.length + 1 ≤ _; omega, fun p4 H4 n4 s4 e4 => ?_⟩⟩
    have e4 : H4 p4 = some (.lst ((ys ++ [O.came + 1]).map V.int)) := by rw [e4, List.map_append]; rfl
    have s14 := (s1.trans s2).trans (s3.trans s4)
    have h64 : 0 ≤ more / 64 := Int.ediv_nonneg m0 (by decide)
    have h64b : more / 64 ≤ more := Int.ediv_le_self _ m0
    generalize more / 64 = here at h64 h64b ⊢
    refine ⟨p4, rfl, _, .inl (SqL.of e4), use_mod ?_ (by rw [List.length_map, List.length_append]; show (0 : Int) < ((ys.length + 1 : Nat) : Int); omega)⟩
    rw [List.length_map]
    obtain ⟨n, _, hn⟩ := atI_ex (xs := ys ++ [O.came + 1]) (i := here % ((ys ++ [O.came + 1]).length : Int)) (Int.emod_nonneg _ (by rw [List.length_append]; show ((ys.length + 1 : Nat) : Int) ≠ 0; omega)) (Int.emod_lt_of_pos _ (by rw [List.length_append]; show (0 : Int) < ((ys.length + 1 : Nat) : Int); omega))
    obtain ⟨b, hb, nb⟩ := names6 (here / 128)
    obtain ⟨c, hc, nc⟩ := signs8 (here / 1024)
    refine ⟨p4, _, _, .int n, rfl, rfl, SqL.of e4, hn, use_div (use_mod ⟨nl, _, _, .str b, rfl, rfl, SqL.of ((s2.trans (s3.trans s4)) _ _ e1), hb, use_div (use_mod ⟨_, _, _, rfl, rfl, by show 8 ≤ sizeLine; omega, hc, use_div ⟨by omega, fun p5 H5 n5 s5 e5 => use_pow (use_div (use_mod ?_))⟩⟩)⟩)⟩
    obtain ⟨m, hm, m1, m30⟩ := five30 (here / 2 ^ (Int.toNat 20))
    refine ⟨p5, _, _, .int m, rfl, rfl, SqL.of e5, hm, use_mod ⟨_, rfl, _, _, rfl, rfl, ?_, ?_, by show 1 ≤ 1000; decide, ?_⟩ (by omega)⟩
    · have := Int.emod_nonneg (here / 8192) (show m ≠ 0 by omega)
      omega
    · have := Int.emod_lt_of_pos (here / 8192) (show 0 < m by omega)
      omega
    have r0 := Int.emod_nonneg (here / 8192) (show m ≠ 0 by omega)
    have r1 := Int.emod_lt_of_pos (here / 8192) (show 0 < m by omega)
    have tx := rep_text (c := c) (n := 1 + here / 8192 % m) nc (by omega) (by omega)
    generalize repS ⟨#[c]⟩ (1 + here / 8192 % m) = text at tx ⊢
    have s15 := s14.trans s5
    clear hm r0 r1 hc hn hb e1 e2 e3 n5 e5 n4 n3 n2 n1
    have hd30 : drawR (here / 2 ^ (Int.toNat 30)) := by
      have a : 0 ≤ here / 2 ^ (Int.toNat 30) := Int.ediv_nonneg h64 (by decide)
      have b : here / 2 ^ (Int.toNat 30) ≤ here := Int.ediv_le_self _ h64
      have c := dr.2
      exact ⟨a, by omega⟩
    refine ⟨fun σ' H' => ∃ tx, textZ tx = true ∧ σ' = [some (.int more), some (.ref O.p), some (.int here), some (.ref nl), some (.ref p4), some (.int n), some (.str b), some (.str tx), none] ∧ Same H H', ?_, ?_⟩
    · walk_at "rd"
      refine use_pow (use_div (use_mod ⟨rfl, ?_⟩))
      have keep : ∃ tx, textZ tx = true ∧ (V.str text = V.str tx) ∧ Same H H5 := ⟨text, tx, rfl, s15⟩
      by_cases c1 : here / 2 ^ (Int.toNat 22) % 4 = 0
      · rw [decide_eq_true (show V.int (here / 2 ^ (Int.toNat 22) % 4) = V.int 0 by rw [c1])]
        refine iteT (use_mod ⟨rfl, ?_⟩)
        by_cases c2 : more % 16 = 12
        · rw [decide_eq_true (show V.int (more % 16) = V.int 12 by rw [c2])]
          refine iteF ?_
          exact ⟨text, tx, rfl, s15⟩
        · rw [decide_eq_false (show ¬ V.int (more % 16) = V.int 12 from fun z => c2 (V.int.inj z))]
          refine iteT (use_pow (use_div ⟨_, _, rfl, hd30, by decide, by decide, fun l H6 hl hs s6 => ?_⟩))
          refine ⟨_, rfl, ?_, _, app_text hl hs, rfl, s15.trans s6⟩
          have l1 : (⟨l.toArray⟩ : Str).length = l.length := by show l.toArray.size = _; simp
          have l2 : (Str.ofString "x").length = 1 := by decide +kernel
          rw [l1, l2]
          omega
      · rw [decide_eq_false (show ¬ V.int (here / 2 ^ (Int.toNat 22) % 4) = V.int 0 from fun z => c1 (V.int.inj z))]
        refine iteF ?_
        exact ⟨text, tx, rfl, s15⟩
    · clear tx
      rintro σ' H6 ⟨tx, htx, rfl, s6⟩
      refine ⟨fun σ' H' => ∃ b, nameZ b = true ∧ σ' = [some (.int more), some (.ref O.p), some (.int here), some (.ref nl), some (.ref p4), some (.int n), some (.str b), some (.str tx), none] ∧ Same H H', ?_, ?_⟩
      · walk_at "rd"
        refine use_pow (use_div (use_mod ⟨rfl, ?_⟩))
        by_cases c1 : here / 2 ^ (Int.toNat 22) % 16 = 1
        · rw [decide_eq_true (show V.int (here / 2 ^ (Int.toNat 22) % 16) = V.int 1 by rw [c1])]
          refine iteT (use_pow (use_div ⟨_, _, rfl, hd30, by decide, by decide, fun z H7 hz s7 => ?_⟩))
          exact ⟨z, hz, rfl, s6.trans s7⟩
        · rw [decide_eq_false (show ¬ V.int (here / 2 ^ (Int.toNat 22) % 16) = V.int 1 from fun z => c1 (V.int.inj z))]
          exact iteF ⟨b, nb, rfl, s6⟩
      · clear nb
        rintro σ' H7 ⟨b, nb, rfl, s7⟩
        walk_at "rd"
        refine use_mod ?_
        have fin : ∀ {d : Deed} {H8 : Hp}, Same H7 H8 → DeedOk d → New (.tup d.tup) H8 Q := fun {d H8} s8 ok p H9 n9 s9 e9 => k d p H9 ok ((s7.trans s8).free n9) ((s7.trans s8).trans s9) e9
        obtain ⟨wv, hw, ww⟩ := ways5 (here / 2 ^ (Int.toNat 24))
        obtain ⟨tv, ht, t0, t1⟩ := ticks5 (here / 2 ^ (Int.toNat 24))
        generalize more % 16 = way
        refine ⟨way, rfl, ?_⟩
        by_cases c1 : way < 7
        · rw [decide_eq_true c1]
          refine iteT ⟨way, rfl, ?_⟩
          by_cases c2 : way < 2
          · rw [decide_eq_true c2]
            exact iteT ⟨by omega, fin (Same.refl _) (deed_say (n := 0) nb htx)⟩
          · rw [decide_eq_false c2]
            exact iteF ⟨by omega, fin (Same.refl _) (deed_say (n := n) nb htx)⟩
        · rw [decide_eq_false c1]
          refine iteF ⟨way, rfl, ?_⟩
          by_cases c2 : way < 12
          · rw [decide_eq_true c2]
            exact iteT ⟨by omega, fun p8 H8 n8 s8 e8 => use_pow (use_div (use_mod ⟨p8, _, _, .int wv, rfl, rfl, SqL.of e8, hw, by omega, fin s8 (deed_vote (n := n) nb ww)⟩))⟩
          · rw [decide_eq_false c2]
            refine iteF ⟨rfl, ?_⟩
            by_cases c3 : way = 12
            · rw [decide_eq_true (show V.int way = V.int 12 by rw [c3])]
              exact iteT ⟨by omega, fun p8 H8 n8 s8 e8 => use_pow (use_div (use_mod ⟨p8, _, _, .int tv, rfl, rfl, SqL.of e8, ht, by omega, fin s8 (deed_tick (who := b) t0 t1 nb)⟩))⟩
            · rw [decide_eq_false (show ¬ V.int way = V.int 12 from fun z => c3 (V.int.inj z))]
              have W7 := W.same s7
              refine iteF ⟨fun σ' H' => ∃ b, nameZ b = true ∧ σ' = [some (.int more), some (.ref O.p), some (.int here), some (.ref nl), some (.ref p4), some (.int n), some (.str b), some (.str tx), some (.int way)] ∧ H' = H7, ?_, ?_⟩
              · walk_at "rd"
                refine ⟨_, g_rows W7.rd.top, _, rfl, _, .inl ⟨_, Sum.inl n, .inl W7.dic, rfl, rfl⟩, ?_⟩
                rw [valV_oK]
                cases q : findO O.ents n with
                | none => exact iteF ⟨b, nb, rfl⟩
                | some e =>
                  refine iteT (use_pow (use_div (use_mod ⟨_, rfl, ?_⟩)))
                  by_cases c4 : 0 < here / 2 ^ (Int.toNat 24) % 8
                  · rw [decide_eq_true c4]
                    exact iteT ⟨_, g_rows W7.rd.top, _, rfl, _, W7.rd.at q, _, rfl, _, g_by (W7.rd.row e (findO_mem q).1), _, nm e (findO_mem q).1, rfl, rfl⟩
                  · rw [decide_eq_false c4]
                    exact iteF ⟨b, nb, rfl, rfl⟩
              · rintro σ' H' ⟨b, nb, rfl, rfl⟩
                walk_at "rd"
                by_cases c5 : way < 15
                · rw [decide_eq_true c5]
                  exact iteT ⟨by omega, fin (Same.refl _) (deed_strike (n := n) nb)⟩
                · rw [decide_eq_false c5]
                  exact iteF ⟨by omega, fin (Same.refl _) (deed_change (n := n) nb htx)⟩
end
end Vw
namespace Vw
open PySem PySem.Spec PyProof.Rows L2
/-! ### uses of the woods' functions where they go -/
theorem above_has0 {rs : Rows} (F : Wf rs) : ∀ (k : Nat) (n : Int), n.toNat ≤ k → (∃ r, findR rs n = some r) → (0 : Int) ∈ aboveR rs n
  | k, n, hk, ⟨r, hr⟩ => by
    rw [F.above hr]
    obtain ⟨_, u1, u2, u3⟩ := F.up hr
    rcases F.has _ (findR_mem hr) with z | z
    · have z : r.under = 0 := z
      rw [z]
      exact List.mem_cons_self
    · cases k with
      | zero => omega
      | succ k => exact List.mem_cons_of_mem _ (above_has0 F k r.under (by omega) z)
theorem beneath_zero {rs : Rows} (F : Wf rs) : beneathR rs 0 = rs.map (·.1) := by
  unfold beneathR
  refine List.filter_eq_self.mpr fun m hm => ?_
  obtain ⟨p, hp, rfl⟩ := List.mem_map.mp hm
  exact decide_eq_true (above_has0 F p.1.toNat p.1 (Nat.le_refl _) ⟨p.2, findR_of F.nk hp⟩)
theorem filter_keys {rs : Rows} (nk : (rs.map (·.1)).Nodup) (c : Int → Bool) (d : Row → Bool) : ((rs.map (·.1)).filter fun m => c m && (((findR rs m).map d).getD false)) = (rs.filter fun p => c p.1 && d p.2).map (·.1) := by
  rw [List.filter_map]
  congr 1
  refine List.filter_congr fun p hp => ?_
  show (c p.1 && (((findR rs p.1).map d).getD false)) = (c p.1 && d p.2)
  rw [findR_of nk hp]
  rfl
theorem many_eq {rs : Rows} (nk : (rs.map (·.1)).Nodup) (n : Int) : manyR rs n = (rs.filter fun p => decide (n ∈ aboveR rs p.1) && !p.2.struck).length := by
  unfold manyR beneathR
  rw [List.filter_filter]
  have e := congrArg List.length (filter_keys nk (fun m => decide (n ∈ aboveR rs m)) fun r => !r.struck)
  rw [List.length_map] at e
  rw [← e]
  congr 1
  refine List.filter_congr fun m _ => ?_
  exact Bool.and_comm _ _
theorem many_zero {rs : Rows} (F : Wf rs) : manyR rs 0 = (rs.filter fun p => !p.2.struck).length := by
  rw [many_eq F.nk]
  congr 1
  refine List.filter_congr fun p hp => ?_
  rw [decide_eq_true (above_has0 F p.1.toNat p.1 (Nat.le_refl _) ⟨p.2, findR_of F.nk hp⟩)]
  rfl
theorem OLay.keys (O : OLay) : O.ents.map (·.n) = O.rows.map (·.1) := by
  unfold OLay.rows
  rw [List.map_map]
  rfl
theorem Lay.keys (L : Lay) : L.ents.map (·.n) = L.rows.map (·.1) := by
  unfold Lay.rows
  rw [List.map_map]
  rfl
theorem Lay.elen (L : Lay) : L.ents.length = L.rows.length := by
  unfold Lay.rows
  rw [List.length_map]
section
variable {K : PySem.W.Frag} {H : Hp} {L : Lay} {O : OLay} {Q : VK} {E : XK} {n : Int}
theorem Good.l64 (G : Good L.wd) : L.ents.length < 64 := by
  rw [L.elen]
  have : L.rows.length ≤ 60 := G.len
  omega
theorem use_sortO (B : OwnRd H O) (q : New (.lst ((sortI (O.rows.map (·.1))).map V.int)) H Q) : rSortedDN [.ref O.d] H Q := by
  refine ⟨O.d, O.ents.map oK, O.ents.map (·.n), rfl, B.dic, ?_, by rw [List.length_map]; exact B.sz, fun ys hp hs => ?_⟩
  · rw [List.map_map, List.map_map]
    rfl
  · rw [O.keys] at hp
    rw [sortI_eq hp hs]
    exact q
theorem use_numbers (W : WoodAt K H L) (G : Good L.wd) (q : New (.lst ((sortI (L.rows.map (·.1))).map V.int)) H Q) : spNumbers K [.ref L.p] H Q E :=
  ⟨L, rfl, W, G.l64, fun p H' n s e => q p H' n s (by rw [← L.keys]; exact e)⟩
theorem use_neL {a b : Addr} {ns : List Int} (ha : H a = some (.lst (ns.map V.int))) (hb : H b = some (.lst (ns.map V.int))) (q : Q (.bl false) H) : rNeD K (.ref a) (.ref b) H Q := by
  refine use_neD (dp_ints ha) (dp_ints hb) (shaped_ints _) (shaped_ints _) ?_
  rw [eqv_ints, decide_eq_true rfl]
  exact q
theorem use_eqL {a b : Addr} {ns : List Int} (ha : H a = some (.lst (ns.map V.int))) (hb : H b = some (.lst (ns.map V.int))) (q : Q (.bl true) H) : rEqD K (.ref a) (.ref b) H Q := by
  refine use_eqD (dp_ints ha) (dp_ints hb) (shaped_ints _) (shaped_ints _) ?_
  rw [eqv_ints, decide_eq_true rfl]
  exact q
theorem Good.under (G : Good L.wd) (h : n = 0 ∨ ∃ r, findR L.rows n = some r) : underOk L.wd (.int n) = true := by
  show (decide (n = 0) || (decide (1 ≤ n) && decide (n ≤ L.came) && (findR L.rows n).isSome)) = true
  rcases h with h | ⟨r, h⟩
  · simp [h]
  · have h1 := (G.wf.up h).2.1
    have h2 : n ≤ L.came := G.le _ (findR_mem h)
    rw [h]
    simp
    right
    omega
theorem use_below (W : WoodAt K H L) (G : Good L.wd) (h : n = 0 ∨ ∃ r, findR L.rows n = some r) (q : New (.lst ((sortI (beneathR L.rows n)).map V.int)) H Q) : spBelow K 8 [.ref L.p, .int n] H Q E :=
  ⟨L, .int n, .int n, rfl, W, G, .int n, rfl, fun _ _ => by omega, (fun z => by rw [G.under h] at z; cases z), fun m e _ p H' np s hp => by cases e; exact q p H' np s hp⟩
theorem use_many (W : WoodAt K H L) (G : Good L.wd) (h : n = 0 ∨ ∃ r, findR L.rows n = some r) (q : ∀ H', Same H H' → Q (.int (manyR L.rows n : Nat)) H') : spMany K [.ref L.p, .int n] H Q E :=
  ⟨L, .int n, .int n, rfl, W, G, .int n, rfl, (fun z => by rw [G.under h] at z; cases z), fun m e _ H' s => by cases e; exact q H' s⟩
theorem use_replies (W : WoodAt K H L) (G : Good L.wd) (q : New (.lst ((sortI (repliesR L.rows n)).map V.int)) H Q) : spReplies K [.ref L.p, .int n] H Q E :=
  ⟨L, n, rfl, W, G.l64, fun p H' np s hp => q p H' np s hp⟩
theorem int_eq (a : Int) : decide (V.int a = V.int a) = true := decide_eq_true rfl
theorem tell_struck (r : Row) : (!decide (tellV r = V.non)) = !r.struck := by
  unfold tellV
  cases r.struck
  · rw [if_neg (by decide)]
    rfl
  · rw [if_pos rfl]
    rfl
end
theorem rows_eq {L : Lay} {O : OLay} (e : L.wd = O.wd) : O.rows = L.rows := (congrArg Wd.rows e).symm
theorem findO_of {es : List OEnt} (nk : (es.map (·.n)).Nodup) {e : OEnt} (he : e ∈ es) : findO es e.n = some e := by
  induction es with
  | nil => cases he
  | cons q r ih =>
    simp only [List.map_cons, List.nodup_cons] at nk
    unfold findO
    rw [List.find?_cons]
    rcases List.mem_cons.mp he with rfl | he
    · simp
    · have h : ¬ q.n = e.n := fun z => nk.1 (List.mem_map.mpr ⟨e, he, z.symm⟩)
      simp only [h, decide_false]
      exact ih nk.2 he
/-- over the keys of the own rows -/
theorem lcE {te0 : TE} {g : TG} {tt : TT} {te : TE} {vs : List Nat} {σ : L2.St} {H : Hp} {Q : VK} {O : OLay} (f : OEnt → Option V) (B : OwnAt H O) (src : ∀ (H' : Hp) (R : VK), H' O.p = some (.dK (ownK O.d O.came O.clock)) → R (.ref O.d) H' → te0 σ H' R)
    (hs : ∀ e H', e ∈ O.ents → OwnRd H' O → (∀ b o, b ≠ O.d → H b = some o → H' b = some o) → findO O.ents e.n = some e → Turn1 f g tt te vs σ H' e (.int e.n))
    (hd : ∀ D H', H D = none → Same H H' → H' D = some (.lst (O.ents.filterMap f)) → Q (.ref D) H') : tLockE (tLc (iKeys te0) g tt te vs) σ H Q := by
  refine lcK (l := O.ents) oK f B.dic (fun H' R kp h => src H' R (kp _ _ B.pd B.rd.top) h) (by rw [sizeLine_eq]; have := B.rd.sz; omega) (fun e H' od he kp hd => ?_) (fun D H' nD s1 eD => hd D H' nD s1 eD)
  exact hs e H' he (B.lock kp hd) kp (findO_of B.rd.nk he)
theorem rows_fm {β : Type} (O : OLay) (f : Int × Row → Option β) : O.ents.filterMap (fun e => f (e.n, e.row)) = O.rows.filterMap f := by
  unfold OLay.rows
  rw [List.filterMap_map]
  rfl
end Vw
namespace Vw
open PySem PySem.Spec PyProof.Rows L2
local macro_rules | `(tactic| walk_at "rd") => `(tactic| simp only [tSeq, tNext, tIfS, tAsg, tRet, tRetN, tDrop, tVar, tC, tOp, tUn, tTest, tB, tAnd, tOr, tNot, tAndV, tOrV, tNotV, tIf, tChain, tCB, tCons, tNil, tCall, tMeth, tMake, tFld, sFld, tTup, tLst, tTupS, tLstS, tDNewKS, tDNewTS, tTold, tCmp, t2I, tIsN, tNotN, tPar, gName, gNil, gCons, gTup, gSub, rI0, rU, rEq, rNe, tDGet, tDIn, tDNotIn, sDPut, tDNewK, tDGet1, tDGet2, tDPop1, tDPop2, tBM, tBM0, tM0, tM1, tSl, tPart, tNoPart, tBreak, tCont, tThru, L2.start, List.map_cons, List.map_nil, List.length_cons, List.length_nil, List.cons_append, List.nil_append, List.append_nil, List.replicate_succ, List.replicate_zero, Nat.reduceAdd, Nat.reduceSub, Nat.zero_add, List.getElem?_cons_zero, List.getElem?_cons_succ, List.set_cons_zero, List.set_cons_succ, wipe, cxOf_K, tYes, List.cons.injEq, and_self, Option.some.injEq, V.int.injEq, V.bl.injEq, V.ref.injEq, V.str.injEq, exists_eq_left', exists_eq_left, exists_and_left, and_assoc, true_and, and_true, if_true, if_false, ite_true, ite_false, Bool.not_true, Bool.not_false, Bool.false_eq_true, reduceIte])
section
variable {P : Program} {w : World} {K : PySem.W.Frag} {mg : Str → Option Value} {base : Heap}
def spLike (K : PySem.W.Frag) : Sp := fun vs H Q _ => ∃ (L : Lay) (O : OLay), vs = [.ref L.p, .ref O.p] ∧ WoodAt K H L ∧ OwnAt H O ∧ L.wd = O.wd ∧ Good L.wd ∧ VotesOk L.wd ∧ ∀ H', Same H H' → Q (.bl true) H'
end
end Vw
namespace Vw
open PySem PySem.Spec PyProof.Rows L2
local macro_rules | `(tactic| walk_at "rd") => `(tactic| simp only [tSeq, tNext, tIfS, tAsg, tRet, tRetN, tDrop, tVar, tC, tOp, tUn, tTest, tB, tAnd, tOr, tNot, tAndV, tOrV, tNotV, tIf, tChain, tCB, tCons, tNil, tCall, tMeth, tMake, tFld, sFld, tTup, tLst, tTupS, tLstS, tDNewKS, tDNewTS, tTold, tCmp, t2I, tIsN, tNotN, tPar, gName, gNil, gCons, gTup, gSub, rI0, rU, rEq, rNe, tDGet, tDIn, tDNotIn, sDPut, tDNewK, tDGet1, tDGet2, tDPop1, tDPop2, tBM, tBM0, tM0, tM1, tSl, tPart, tNoPart, tBreak, tCont, tThru, L2.start, List.map_cons, List.map_nil, List.length_cons, List.length_nil, List.cons_append, List.nil_append, List.append_nil, List.replicate_succ, List.replicate_zero, Nat.reduceAdd, Nat.reduceSub, Nat.zero_add, List.getElem?_cons_zero, List.getElem?_cons_succ, List.set_cons_zero, List.set_cons_succ, wipe, cxOf_K, tYes, List.cons.injEq, and_self, Option.some.injEq, V.int.injEq, V.bl.injEq, V.ref.injEq, V.str.injEq, exists_eq_left', exists_eq_left, exists_and_left, and_assoc, true_and, and_true, if_true, if_false, ite_true, ite_false, Bool.not_true, Bool.not_false, Bool.false_eq_true, reduceIte])
def RowOk (r : Row) : Prop := nameZ r.who = true ∧ (r.struck = false → textZ r.text = true) ∧ r.text.length ≤ 30
def RowsOk (M : Wd) : Prop := ∀ p ∈ M.rows, RowOk p.2
theorem text_len {z : Str} (h : textZ z = true) : z.length ≤ 30 := by
  unfold textZ at h
  simp only [Bool.and_eq_true, decide_eq_true_eq] at h
  exact h.1.2
theorem small_lt : ∀ c ∈ small, c < 0x110000 := by decide +kernel
theorem str_name {z : Str} (h : nameZ z = true) : PyData.strOk z = true := by
  unfold nameZ at h
  simp only [Bool.and_eq_true, decide_eq_true_eq, List.all_eq_true] at h
  unfold PyData.strOk
  rw [← Array.all_toList, List.all_eq_true]
  exact fun c hc => decide_eq_true (small_lt c (h.2 c hc))
theorem str_text {z : Str} (h : textZ z = true) : PyData.strOk z = true := by
  unfold textZ signOk at h
  simp only [Bool.and_eq_true, decide_eq_true_eq, List.all_eq_true] at h
  unfold PyData.strOk
  rw [← Array.all_toList, List.all_eq_true]
  exact fun c hc => decide_eq_true (by have := (h.2 c hc).1.2; omega)
def tellD (r : Row) : PyData := if r.struck = true then .none else .str r.text
def lookD (r : Row) : PyData := .tuple [.str r.who, .int r.under, tellD r, .int r.time]
def lookV (r : Row) : List V := [.str r.who, .int r.under, tellV r, .int r.time]
theorem dp_look {K : PySem.W.Frag} {H : Hp} {r : Row} {p : Addr} (h : H p = some (.tup (lookV r))) : Dp K H (.ref p) (lookD r) := by
  have ht : Dp K H (tellV r) (tellD r) := by
    unfold tellV tellD
    split
    · exact .non
    · exact .str _
  exact .tup (.inl (.inl h)) (.cons (.str _) (.cons (.int _) (.cons ht (.cons (.int _) .nil))))
theorem shaped_look {r : Row} (h : RowOk r) : SeqAt.shaped (lookD r) = true := by
  unfold lookD tellD
  have h1 := str_name h.1
  have h2' := h.2.1
  cases c : r.struck
  · have h2 := str_text (h2' c)
    rw [if_neg (by decide)]
    simp [SeqAt.shaped, PyData.canLay0, PyData.canLayAll0, PyData.depth, PyData.depthAll, h1, h2]
  · rw [if_pos rfl]
    simp [SeqAt.shaped, PyData.canLay0, PyData.canLayAll0, PyData.depth, PyData.depthAll, h1]
theorem eqv_look (r : Row) : PyData.eqv (lookD r) (lookD r) = true := by
  unfold lookD tellD
  cases r.struck
  · rw [if_neg (by decide)]
    simp [PyData.eqv, PyData.eqvAll]
  · rw [if_pos rfl]
    simp [PyData.eqv, PyData.eqvAll]
theorem ups_of {r : Row} (h : ∀ v ∈ r.votes, v.2 = 1 ∨ v.2 = -1) : ((r.votes.filter fun p => decide (p.2 = 1)).length : Int) = r.ups ∧ (r.votes.length : Int) - ((r.votes.filter fun p => decide (p.2 = 1)).length : Int) = r.downs := by
  unfold Row.ups Row.downs
  generalize r.votes = l at h
  induction l with
  | nil => exact ⟨rfl, rfl⟩
  | cons p t ih =>
    obtain ⟨b, w⟩ := p
    have q := ih fun v hv => h v (List.mem_cons_of_mem _ hv)
    have hw : w = 1 ∨ w = -1 := h (b, w) List.mem_cons_self
    rcases hw with e | e
    all_goals subst e; simp [List.filter_cons] at q ⊢; omega
theorem eqv_pair (a b : Int) : PyData.eqv (.tuple [.int a, .int b]) (.tuple [.int a, .int b]) = true := by simp [PyData.eqv, PyData.eqvAll]
theorem replies_of {rs : Rows} (F : Wf rs) (n : Int) : (beneathR rs n).filter (fun m => decide (upR rs m = n)) = repliesR rs n := by
  unfold beneathR repliesR
  rw [List.filter_filter, List.filter_map]
  congr 1
  refine List.filter_congr fun p hp => ?_
  show (decide (upR rs p.1 = n) && decide (n ∈ aboveR rs p.1)) = decide (p.2.under = n)
  have f := findR_of F.nk hp
  rw [(F.up f).1, F.above f]
  by_cases c : p.2.under = n
  · simp [c]
  · simp [c]
section
variable {P : Program} {w : World} {K : PySem.W.Frag} {mg : Str → Option Value} {base : Heap}
def spOneLike (K : PySem.W.Frag) : Sp := fun vs H Q _ => ∃ (L : Lay) (O : OLay) (n : Int), vs = [.ref L.p, .ref O.p, .int n] ∧ WoodAt K H L ∧ OwnAt H O ∧ L.wd = O.wd ∧ Good L.wd ∧ VotesOk L.wd ∧ RowsOk L.wd ∧ (∃ r, findR L.rows n = some r) ∧ ∀ H', Same H H' → Q (.bl true) H'
end
end Vw
namespace Vw
open PySem PySem.Spec PyProof.Rows L2
/-! ### deeds keep a wood fine: plain law -/
structure Fine (M : Wd) (m : Nat) : Prop where
  G : Good M
  c0 : 0 ≤ M.came
  vo : VotesOk M
  ro : RowsOk M
  vl : ∀ p ∈ M.rows, p.2.votes.length ≤ m
  cm : M.came ≤ m
  k0 : 0 ≤ M.clock
  km : M.clock ≤ 1000 * m
  tm : ∀ p ∈ M.rows, 0 ≤ p.2.time ∧ p.2.time ≤ M.clock
  vn : ∀ p ∈ M.rows, ∀ v ∈ p.2.votes, nameZ v.1 = true
def actW (M : Wd) (d : Deed) : Wd := match actM M d with
  | .ok (_, M') => M'
  | .error _ => M
def valD : V → PyData
  | .int i => .int i
  | _ => .none
def refD (c : Str) : PyData := .tuple [.str "refused", .str c]
def actD (M : Wd) (d : Deed) : PyData := match actM M d with
  | .ok (v, _) => valD v
  | .error e => refD e.cls
theorem Fine.mono {M : Wd} {m k : Nat} (f : Fine M m) (h : m ≤ k) : Fine M k := ⟨f.G, f.c0, f.vo, f.ro, fun p hp => Nat.le_trans (f.vl p hp) h, by have := f.cm; omega, f.k0, by have := f.km; omega, f.tm, f.vn⟩
theorem ex_map {α β : Type} {x : Except Er α} {g : α → β} {y : β} (h : x.map g = .ok y) : ∃ a, x = .ok a ∧ g a = y := by
  cases x with
  | error e => cases h
  | ok a => exact ⟨a, rfl, by cases h; rfl⟩
theorem Fine.set {M : Wd} {m : Nat} (f : Fine M m) {n : Int} {r r' : Row} (h : findR M.rows n = some r) (hu : r'.under = r.under) (hw : r'.who = r.who) (htm : r'.time = r.time) (ht : (r'.struck = false → textZ r'.text = true) ∧ r'.text.length ≤ 30) (hv : ∀ v ∈ r'.votes, v.2 = 1 ∨ v.2 = -1) (hvn : ∀ v ∈ r'.votes, nameZ v.1 = true) (hl : r'.votes.length ≤ m + 1) : Fine { M with rows := setR M.rows n r' } (m + 1) := by
  have key : ∀ p ∈ setR M.rows n r', p = (n, r') ∨ p ∈ M.rows := fun p hp => (mem_setR hp).elim (fun z => .inl z.1) fun z => .inr z.1
  refine ⟨f.G.set h hu, f.c0, fun p hp => ?_, fun p hp => ?_, fun p hp => ?_, by have := f.cm; show M.came ≤ _; omega, f.k0, by have := f.km; show M.clock ≤ _; omega, fun p hp => ?_, fun p hp => ?_⟩
  · rcases key p hp with rfl | hp
    · exact hv
    · exact f.vo p hp
  · rcases key p hp with rfl | hp
    · exact ⟨by show nameZ r'.who = true; rw [hw]; exact (f.ro _ (findR_mem h)).1, ht⟩
    · exact f.ro p hp
  · rcases key p hp with rfl | hp
    · exact hl
    · exact Nat.le_succ_of_le (f.vl p hp)
  · rcases key p hp with rfl | hp
    · show 0 ≤ r'.time ∧ r'.time ≤ M.clock
      rw [htm]
      exact f.tm _ (findR_mem h)
    · exact f.tm p hp
  · rcases key p hp with rfl | hp
    · exact hvn
    · exact f.vn p hp
theorem gone_sub : ∀ (k : Nat) (rs : Rows) (n : Int), n.toNat ≤ k → ∀ p ∈ (goneR rs n).1, p ∈ rs
  | k, rs, n, hk, p, hp => by
    rw [goneR] at hp
    cases q : findR rs n with
    | none =>
      rw [q] at hp
      exact hp
    | some r =>
      rw [q] at hp
      dsimp only at hp
      split at hp
      · rename_i h
        cases k with
        | zero => omega
        | succ k => exact (List.mem_filter.mp (gone_sub k (dropR rs n) r.under (by omega) p hp)).1
      · exact hp
theorem own_ok {M : Wd} {d b : PyData} {n : Int} {r : Row} (h : ownM M d b = .ok (n, r)) : findR M.rows n = some r ∧ d = .int n := by
  unfold ownM at h
  split at h
  · cases h
  · rename_i n' r' hs
    split at h
    · cases h
    · split at h
      · cases h
        unfold sayingM at hs
        split at hs
        · rename_i k
          split at hs
          · cases q : findR M.rows k with
            | none => rw [q] at hs; cases hs
            | some r' =>
              rw [q] at hs
              cases hs
              exact ⟨q, rfl⟩
          · cases hs
        · cases hs
      · cases h
theorem Fine.act {M M' : Wd} {m : Nat} (f : Fine M m) {d : Deed} (ok : DeedOk d) {v : V} (h : actM M d = .ok (v, M')) : Fine M' (m + 1) := by
  cases d with
  | say n who text =>
    obtain ⟨nw, tw⟩ := ok.who (.inl rfl)
    obtain ⟨⟨k, M1⟩, hs, e⟩ := ex_map h
    cases e
    have hs : sayM M (.str who) (.int n) (.str text) = .ok (k, M1) := hs
    obtain ⟨g1, g2, _⟩ := f.G.say hs f.c0
    have key : ∀ p ∈ M1.rows, p.2 = ⟨who, n, text, M.clock, [], false⟩ ∨ p ∈ M.rows := fun p hp => by
      unfold sayM at hs
      split at hs
      · cases hs
      · split at hs
        · cases hs
        · split at hs
          · cases hs
          · dsimp only at hs
            split at hs
            · cases hs
            · cases hs
              rcases List.mem_append.mp hp with hp | hp
              · exact .inr hp
              · rw [List.mem_singleton.mp hp]
                exact .inl rfl
    have eck : M1.clock = M.clock := by
      unfold sayM at hs
      split at hs
      · cases hs
      · split at hs
        · cases hs
        · split at hs
          · cases hs
          · dsimp only at hs
            split at hs
            · cases hs
            · cases hs
              rfl
    refine ⟨g1, by have := f.c0; rw [g2]; omega, fun p hp => ?_, fun p hp => ?_, fun p hp => ?_, by have := f.cm; rw [g2]; omega, by rw [eck]; exact f.k0, by have := f.km; rw [eck]; omega, fun p hp => ?_, fun p hp => ?_⟩
    all_goals rcases key p hp with e | hp
    · rw [e]
      exact fun v hv => nomatch hv
    · exact f.vo p hp
    · rw [e]
      exact ⟨nw, fun _ => tw, text_len tw⟩
    · exact f.ro p hp
    · rw [e]
      exact Nat.zero_le _
    · exact Nat.le_succ_of_le (f.vl p hp)
    · rw [e, eck]
      exact ⟨f.k0, Int.le_refl _⟩
    · rw [eck]
      exact f.tm p hp
    · rw [e]
      exact fun v hv => nomatch hv
    · exact f.vn p hp
  | tick k who =>
    cases h
    obtain ⟨t0, t1⟩ := ok.tick rfl
    have a0 := f.k0
    have a1 := f.km
    exact ⟨⟨f.G.wf, f.G.le, f.G.dp, f.G.len⟩, f.c0, f.vo, f.ro, fun p hp => Nat.le_succ_of_le (f.vl p hp), by have := f.cm; show M.came ≤ _; omega, by show 0 ≤ M.clock + k; omega, by show M.clock + k ≤ _; omega, fun p hp => by
      have := f.tm p hp
      show _ ∧ _ ≤ M.clock + k
      omega, f.vn⟩
  | change n who text =>
    obtain ⟨nw, tw⟩ := ok.who (.inr rfl)
    obtain ⟨M1, hs, e⟩ := ex_map h
    have e : M1 = M' := by cases e; rfl
    subst e
    clear h
    unfold changeM at hs
    split at hs
    · cases hs
    · rename_i n' r ho
      obtain ⟨hf, _⟩ := own_ok ho
      have hs : (if textZ text = true then Except.ok { M with rows := setR M.rows n' { r with text := text } } else Except.error Er.text) = Except.ok M1 := hs
      rw [if_pos tw] at hs
      cases hs
      exact f.set hf rfl rfl rfl ⟨fun _ => tw, text_len tw⟩ (f.vo _ (findR_mem hf)) (f.vn _ (findR_mem hf)) (Nat.le_succ_of_le (f.vl _ (findR_mem hf)))
  | strike n who =>
    obtain ⟨⟨k, M1⟩, hs, e⟩ := ex_map h
    cases e
    unfold strikeM at hs
    split at hs
    · cases hs
    · rename_i n' r ho
      obtain ⟨hf, _⟩ := own_ok ho
      cases hs
      have fm := f.set (r' := { r with struck := true }) hf rfl rfl rfl ⟨(fun z => by cases z), (f.ro _ (findR_mem hf)).2.2⟩ (f.vo _ (findR_mem hf)) (f.vn _ (findR_mem hf)) (Nat.le_succ_of_le (f.vl _ (findR_mem hf)))
      have sub := gone_sub n'.toNat (setR M.rows n' { r with struck := true }) n' (Nat.le_refl _)
      exact ⟨Good.gone f.G n'.toNat _ n' (Nat.le_refl _) fm.G, f.c0, fun p hp => fm.vo p (sub p hp), fun p hp => fm.ro p (sub p hp), fun p hp => fm.vl p (sub p hp), fm.cm, fm.k0, fm.km, fun p hp => fm.tm p (sub p hp), fun p hp => fm.vn p (sub p hp)⟩
  | vote n who way =>
    obtain ⟨nw, ww⟩ := ok.vote rfl
    obtain ⟨⟨k, M1⟩, hs, e⟩ := ex_map h
    cases e
    unfold voteM at hs
    split at hs
    · cases hs
    · rename_i n' r ho
      have hf : findR M.rows n' = some r := by
        rw [sayingG f.G] at ho
        cases q : findR M.rows n with
        | none => rw [q] at ho; cases ho
        | some r' =>
          rw [q] at ho
          cases ho
          exact q
      split at hs
      · cases hs
      · split at hs
        · cases hs
        · dsimp only at hs
          split at hs
          · cases hs
          · cases hs
            have old := f.vo _ (findR_mem hf)
            refine f.set hf rfl rfl rfl (f.ro _ (findR_mem hf)).2 (fun v hv => ?_) (fun v hv => ?_) ?_
            · have hv : v ∈ votesM r.votes who way := hv
              unfold votesM at hv
              dsimp only at hv
              split at hv
              · exact old v (List.mem_filter.mp hv).1
              · rename_i w0
                rcases List.mem_append.mp hv with hv | hv
                · exact old v (List.mem_filter.mp hv).1
                · cases List.mem_singleton.mp hv
                  show way = 1 ∨ way = -1
                  omega
            · have oldn := f.vn _ (findR_mem hf)
              have hv : v ∈ votesM r.votes who way := hv
              unfold votesM at hv
              dsimp only at hv
              split at hv
              · exact oldn v (List.mem_filter.mp hv).1
              · rcases List.mem_append.mp hv with hv | hv
                · exact oldn v (List.mem_filter.mp hv).1
                · cases List.mem_singleton.mp hv
                  exact nw
            · show (votesM r.votes who way).length ≤ m + 1
              have l0 : (r.votes.filter fun p => decide (p.1 ≠ who)).length ≤ r.votes.length := List.length_filter_le _ _
              have l1 : r.votes.length ≤ m := f.vl _ (findR_mem hf)
              unfold votesM
              dsimp only
              split
              · omega
              · rw [List.length_append, List.length_singleton]
                omega
theorem Fine.actW {M : Wd} {m : Nat} (f : Fine M m) {d : Deed} (ok : DeedOk d) : Fine (actW M d) (m + 1) := by
  unfold Vw.actW
  split
  · rename_i h
    exact f.act ok h
  · exact f.mono (Nat.le_succ _)
theorem act_val {M M' : Wd} {d : Deed} {v : V} (h : actM M d = .ok (v, M')) : v = .non ∨ ∃ i, v = .int i := by
  cases d with
  | tick k who => cases h; exact .inl rfl
  | change n who text =>
    obtain ⟨_, _, e⟩ := ex_map h
    cases e
    exact .inl rfl
  | _ =>
    obtain ⟨_, _, e⟩ := ex_map h
    cases e
    exact .inr ⟨_, rfl⟩
theorem shaped_act (M : Wd) (d : Deed) : SeqAt.shaped (actD M d) = true := by
  unfold actD
  split
  · rename_i h
    rcases act_val h with rfl | ⟨i, rfl⟩ <;> rfl
  · rename_i e h
    cases e <;> decide +kernel
theorem eqv_act (M : Wd) (d : Deed) : PyData.eqv (actD M d) (actD M d) = true := by
  unfold actD
  split
  · rename_i h
    rcases act_val h with rfl | ⟨i, rfl⟩
    · rfl
    · show PyData.eqv (.int i) (.int i) = true
      rw [eqv_int]
      exact decide_eq_true rfl
  · simp [refD, PyData.eqv, PyData.eqvAll]
/-! ### both woods, apart -/
structure Pair (K : PySem.W.Frag) (H : Hp) (L : Lay) (O : OLay) : Prop where
  W : WoodAt K H L
  B : OwnAt H O
  ap : ∀ b ∈ foot L, b ∉ footO O
structure JStep (H : Hp) (L : Lay) (O : OLay) (H' : Hp) (L' : Lay) (O' : OLay) : Prop where
  p : L'.p = L.p
  q : O'.p = O.p
  keep : ∀ b o, b ∉ foot L → b ∉ footO O → H b = some o → (∀ ps, o ≠ .tbl ps) → H' b = some o
  new : ∀ b, b ∈ foot L' ∨ b ∈ footO O' → b ∈ foot L ∨ b ∈ footO O ∨ ∀ o, H b = some o → ∃ ps, o = .tbl ps
theorem JStep.ext {H H' : Hp} {L : Lay} {O : OLay} (s : LamX.ExtN H H') : JStep H L O H' L O := ⟨rfl, rfl, fun b o _ _ e n => s b o e n, fun b hb => hb.elim .inl fun z => .inr (.inl z)⟩
theorem JStep.same {H H' : Hp} {L : Lay} {O : OLay} (s : Same H H') : JStep H L O H' L O := JStep.ext (LamX.ExtN.of s)
theorem JStep.trans {H H1 H2 : Hp} {L L1 L2 : Lay} {O O1 O2 : OLay} (a : JStep H L O H1 L1 O1) (b : JStep H1 L1 O1 H2 L2 O2) : JStep H L O H2 L2 O2 := by
  have out : ∀ {c o}, c ∉ foot L → c ∉ footO O → H c = some o → (∀ ps, o ≠ .tbl ps) → ¬ (c ∈ foot L1 ∨ c ∈ footO O1) := fun {c o} h1 h2 e n h => by
    rcases a.new c h with z | z | z
    · exact h1 z
    · exact h2 z
    · obtain ⟨ps, q⟩ := z o e
      exact n ps q
  refine ⟨b.p.trans a.p, b.q.trans a.q, fun c o h1 h2 e n => b.keep c o (fun z => out h1 h2 e n (.inl z)) (fun z => out h1 h2 e n (.inr z)) (a.keep c o h1 h2 e n) n, fun c hc => ?_⟩
  rcases b.new c hc with z | z | z
  · exact a.new c (.inl z)
  · exact a.new c (.inr z)
  · by_cases h1 : c ∈ foot L
    · exact .inl h1
    · by_cases h2 : c ∈ footO O
      · exact .inr (.inl h2)
      · refine .inr (.inr fun o e => ?_)
        by_cases n : ∃ ps, o = .tbl ps
        · exact n
        · exact z o (a.keep c o h1 h2 e fun ps q => n ⟨ps, q⟩)
theorem footO_obj {H : Hp} {O : OLay} (B : OwnAt H O) {b : Addr} (hb : b ∈ footO O) : ∃ k, H b = some (.dK k) := by
  have q : b = O.p ∨ b = O.d ∨ b ∈ O.ents.map (·.a) ∨ b ∈ O.ents.map (·.v) := by
    unfold footO at hb
    simpa only [List.mem_cons, List.mem_append] using hb
  rcases q with rfl | rfl | q | q
  · exact ⟨_, B.rd.top⟩
  · exact ⟨_, B.dic⟩
  · obtain ⟨e, he, rfl⟩ := List.mem_map.mp q
    exact ⟨_, B.rd.row e he⟩
  · obtain ⟨e, he, rfl⟩ := List.mem_map.mp q
    exact ⟨_, B.rd.vot e he⟩
theorem foot_live {K : PySem.W.Frag} {H : Hp} {L : Lay} (W : WoodAt K H L) {b : Addr} (hb : b ∈ foot L) : ∃ o, H b = some o ∧ IsP o := by
  have q : b = L.p ∨ b = L.d ∨ b ∈ L.ents.map (·.a) ∨ b ∈ L.ents.map (·.v) := by
    unfold foot at hb
    simpa only [List.mem_cons, List.mem_append] using hb
  rcases q with rfl | rfl | q | q
  · exact ⟨_, W.top, .inl ⟨_, _, _, rfl⟩⟩
  · exact ⟨_, W.dic, .inr ⟨_, rfl⟩⟩
  · obtain ⟨e, he, rfl⟩ := List.mem_map.mp q
    exact ⟨_, (W.say e he).o, .inl ⟨_, _, _, rfl⟩⟩
  · obtain ⟨e, he, rfl⟩ := List.mem_map.mp q
    exact ⟨_, (W.say e he).d, .inr ⟨_, rfl⟩⟩
theorem OwnAt.wk {H H' : Hp} {O : OLay} (B : OwnAt H O) (s : ∀ b o, b ∈ footO O → H b = some o → H' b = some o) : OwnAt H' O := by
  have p : O.p ∈ footO O := List.mem_cons_self
  have d : O.d ∈ footO O := List.mem_cons_of_mem _ List.mem_cons_self
  have a : ∀ e ∈ O.ents, e.a ∈ footO O := fun e he => List.mem_cons_of_mem _ (List.mem_cons_of_mem _ (mem_foO_a he))
  have v : ∀ e ∈ O.ents, e.v ∈ footO O := fun e he => List.mem_cons_of_mem _ (List.mem_cons_of_mem _ (mem_foO_v he))
  exact ⟨⟨s _ _ p B.rd.top, .inl (s _ _ d B.dic), fun e he => s _ _ (a e he) (B.rd.row e he), fun e he => s _ _ (v e he) (B.rd.vot e he), B.rd.nk, B.rd.ndv, B.rd.sz, B.rd.vsz⟩, s _ _ d B.dic, B.nd⟩
theorem WoodAt.wkF {K : PySem.W.Frag} {H H' : Hp} {L : Lay} (W : WoodAt K H L) (s : ∀ b o, b ∈ foot L → H b = some o → H' b = some o) : WoodAt K H' L := by
  have p : L.p ∈ foot L := List.mem_cons_self
  have d : L.d ∈ foot L := List.mem_cons_of_mem _ List.mem_cons_self
  exact ⟨s _ _ p W.top, s _ _ d W.dic, fun e he => ⟨s _ _ (mem_foot_a he) (W.say e he).o, s _ _ (mem_foot_v he) (W.say e he).d, (W.say e he).nd, (W.say e he).sz⟩, W.nk, W.nda, W.ndv, W.dv, W.pa, W.sz⟩
theorem Pair.ext {K : PySem.W.Frag} {H H' : Hp} {L : Lay} {O : OLay} (P : Pair K H L O) (s : LamX.ExtN H H') : Pair K H' L O :=
  ⟨P.W.ext s, P.B.wk (fun b o hb e => s b o e fun ps z => by
    obtain ⟨k, hk⟩ := footO_obj P.B hb
    rw [e, z] at hk
    cases hk), P.ap⟩
theorem Pair.same {K : PySem.W.Frag} {H H' : Hp} {L : Lay} {O : OLay} (P : Pair K H L O) (s : Same H H') : Pair K H' L O := P.ext (LamX.ExtN.of s)
theorem isP_not_tbl {o : HO} (h : IsP o) : ∀ ps, o ≠ .tbl ps := fun ps z => by
  rw [z] at h
  exact not_tbl _ h
/-- lists, tuples and their like stay -/
theorem JStep.lk {K : PySem.W.Frag} {H H' : Hp} {L L' : Lay} {O O' : OLay} (J : JStep H L O H' L' O') (P : Pair K H L O) : LK H H' := fun b o h n m => by
  refine J.keep b o (fun hb => n (foot_obj P.W hb h)) (fun hb => ?_) h m
  obtain ⟨k, hk⟩ := footO_obj P.B hb
  rw [h] at hk
  cases hk
  exact n (.inr ⟨_, rfl⟩)
mutual
theorem dp_lk {K : PySem.W.Frag} {H H' : Hp} (s : LK H H') : ∀ {x : V} {d : PyData}, Dp K H x d → Dp K H' x d
  | _, _, .non => .non
  | _, _, .bl b => .bl b
  | _, _, .int i => .int i
  | _, _, .str z => .str z
  | _, _, .lst hs h => .lst (s.seq hs) (dps_lk s h)
  | _, _, .tup hs h => .tup (by
      rcases hs with (h | ⟨o, h⟩) | h
      · exact .inl (.inl (s.tup h))
      · exact .inl (.inr ⟨o, s _ _ h (not_frz _ _) (by intro t z; cases z)⟩)
      · exact .inr h) (dps_lk s h)
theorem dps_lk {K : PySem.W.Frag} {H H' : Hp} (s : LK H H') : ∀ {xs : List V} {ds : List PyData}, DpAll K H xs ds → DpAll K H' xs ds
  | _, _, .nil => .nil
  | _, _, .cons h t => .cons (dp_lk s h) (dps_lk s t)
end
theorem LK.sqt {K : PySem.W.Frag} {H H' : Hp} {a : Addr} {xs : List V} (k : LK H H') (h : SqT K H a xs) : SqT K H' a xs := by
  rcases h with (h | ⟨o, h⟩) | h
  · exact .inl (.inl (k.tup h))
  · exact .inl (.inr ⟨o, k _ _ h (not_frz _ _) (by intro t z; cases z)⟩)
  · exact .inr h
section
variable {K : PySem.W.Frag} {H : Hp} {L : Lay} {O : OLay} {Q : VK} {E : XK} {d : Deed} {p : Addr} {m : Nat}
theorem Fine.ents {L : Lay} {m : Nat} (f : Fine L.wd m) (hm : m ≤ 9000) : ∀ e ∈ L.ents, e.row.votes.length < 9999 := fun e he => by
  have := f.vl (e.n, e.row) (List.mem_map.mpr ⟨e, he, rfl⟩)
  have : e.row.votes.length ≤ m := this
  omega
theorem Fine.entsO {O : OLay} {m : Nat} (f : Fine O.wd m) (hm : m ≤ 9000) : ∀ e ∈ O.ents, e.row.votes.length < 9999 := fun e he => by
  have := f.vl (e.n, e.row) (List.mem_map.mpr ⟨e, he, rfl⟩)
  have : e.row.votes.length ≤ m := this
  omega
theorem use_do (P : Pair K H L O) (f : Fine L.wd m) (hm : m ≤ 9000) (ok : DeedOk d) (hp : SqT K H p d.tup) (hT : LamX.Tabs (tabs K) H)
    (k : ∀ v H' L', Pair K H' L' O → L'.wd = actW L.wd d → JStep H L O H' L' O → LamX.Tabs (tabs K) H' → Dp K H' v (actD L.wd d) → Q v H') : spDo K [.ref L.p, .ref p] H Q E := by
  refine ⟨L, p, d, rfl, hp, P.W, f.G, f.G.l64, ok, f.ents hm, hT, fun v M h H' L' W' e' S T' => ?_, fun e h r H' x T' hr => ?_⟩
  · refine k v H' L' ⟨W', P.B.wk fun b o hb e => S.keep b o (fun z => P.ap b z hb) e fun ps z => ?_, fun b hb hO => ?_⟩ ?_ ⟨S.p, rfl, fun b o h1 _ e n => S.keep b o h1 e n, fun b hb => ?_⟩ T' ?_
    · obtain ⟨k, hk⟩ := footO_obj P.B hb
      rw [e, z] at hk
      cases hk
    · obtain ⟨k, hk⟩ := footO_obj P.B hO
      rcases S.new b hb with z | z
      · exact P.ap b z hO
      · obtain ⟨ps, q⟩ := z _ hk
        cases q
    · rw [e']
      unfold actW
      rw [h]
    · rcases hb with hb | hb
      · rcases S.new b hb with z | z
        · exact .inl z
        · exact .inr (.inr z)
      · exact .inr (.inl hb)
    · unfold actD
      rw [h]
      rcases act_val h with rfl | ⟨i, rfl⟩
      · exact .non
      · exact .int i
  · refine k (.ref r) H' L (P.ext x) ?_ (JStep.ext x) T' ?_
    · unfold actW
      rw [h]
    · unfold actD
      rw [h]
      exact dp_refu hr
theorem use_act (P : Pair K H L O) (f : Fine O.wd m) (hm : m ≤ 9000) (ok : DeedOk d) (hp : SqT K H p d.tup)
    (k : ∀ v H' O', Pair K H' L O' → O'.wd = actW O.wd d → JStep H L O H' L O' → (LamX.Tabs (tabs K) H → LamX.Tabs (tabs K) H') → Dp K H' v (actD O.wd d) → Q v H') : spAct K [.ref O.p, .ref p] H Q E := by
  refine ⟨O, p, d, rfl, hp, P.B, f.G, ok, f.vo, f.entsO hm, fun v M h H' O' B' e' S => ?_, fun e h r H' n s hr => ?_⟩
  · refine k v H' O' ⟨P.W.wkF fun b o hb e => S.keep b o (fun z => P.ap b hb z) e, B', fun b hb hO => ?_⟩ ?_ ⟨rfl, S.p, fun b o _ h2 e n => S.keep b o h2 e, fun b hb => ?_⟩ (fun T' => ?_) ?_
    · obtain ⟨o, ho, _⟩ := foot_live P.W hb
      rcases S.new b hO with z | z
      · exact P.ap b hb z
      · rw [z] at ho
        cases ho
    · rw [e']
      unfold actW
      rw [h]
    · rcases hb with hb | hb
      · exact .inl hb
      · rcases S.new b hb with z | z
        · exact .inr (.inl z)
        · exact .inr (.inr fun o e => by rw [z] at e; cases e)
    · refine K2.tabs (fun b o e n => S.keep b o (fun z => ?_) e) T'
      obtain ⟨k, hk⟩ := footO_obj P.B z
      rw [e] at hk
      cases hk
      exact n (.inr ⟨_, rfl⟩)
    · unfold actD
      rw [h]
      rcases act_val h with rfl | ⟨i, rfl⟩
      · exact .non
      · exact .int i
  · refine k (.ref r) H' O (P.same s) ?_ (JStep.same s) (fun T' => T'.ext s) ?_
    · unfold actW
      rw [h]
    · unfold actD
      rw [h]
      exact dp_refu hr
/-- do, then act: they tell the same -/
theorem use_do_act (P : Pair K H L O) (e : L.wd = O.wd) (f : Fine L.wd m) (hm : m ≤ 9000) (ok : DeedOk d) (hp : SqT K H p d.tup) (hT : LamX.Tabs (tabs K) H)
    (k : ∀ H' L' O', Pair K H' L' O' → L'.wd = actW L.wd d → O'.wd = actW L.wd d → JStep H L O H' L' O' → LamX.Tabs (tabs K) H' → Q (.bl false) H') :
    spDo K [.ref L.p, .ref p] H (fun v H1 => spAct K [.ref O.p, .ref p] H1 (fun u H2 => rNeD K v u H2 Q) E) E := by
  refine use_do P f hm ok hp hT fun v H1 L1 P1 w1 J1 T1 d1 => ?_
  refine use_act P1 (e ▸ f) hm ok ((J1.lk P).sqt hp) fun u H2 O2 P2 w2 J2 T2 d2 => ?_
  rw [← e] at w2 d2
  refine use_neD (dp_lk (J2.lk P1) d1) d2 (shaped_act _ _) (shaped_act _ _) ?_
  rw [eqv_act]
  exact k H2 L1 O2 P2 w1 w2 (J1.trans J2) (T2 T1)
end
theorem act_nb (M : Wd) (d : Deed) (b : Bool) : actD M d ≠ .bool b := by
  unfold actD
  split
  · rename_i h
    rcases act_val h with rfl | ⟨i, rfl⟩ <;> (intro z; cases z)
  · intro z
    cases z
theorem new_pair {K : PySem.W.Frag} {H3 H4 : Hp} {p dx d po do_ : Addr} (W3 : WoodAt K H3 ⟨p, dx, d, [], 0, 0⟩) (np : H3 po = none) (nd : H3 do_ = none) (s4 : Same H3 H4) (B4 : OwnAt H4 ⟨po, do_, [], 0, 0⟩) : Pair K H4 ⟨p, dx, d, [], 0, 0⟩ ⟨po, do_, [], 0, 0⟩ := by
  refine ⟨W3.same s4, B4, fun b hb hO => ?_⟩
  obtain ⟨o, ho, _⟩ := foot_live W3 hb
  have q : b = po ∨ b = do_ := by
    have hO : b ∈ [po, do_] := hO
    simpa using hO
  rcases q with rfl | rfl
  · rw [np] at ho
    cases ho
  · rw [nd] at ho
    cases ho
theorem fine0 : Fine ⟨[], 0, 0⟩ 0 := by
  refine ⟨⟨⟨List.Pairwise.nil, ?_, ?_, ?_, ?_⟩, ?_, ?_, by decide⟩, Int.le_refl _, ?_, ?_, ?_, Int.le_refl _, Int.le_refl _, Int.le_refl _, ?_, ?_⟩
  all_goals intro p hp; cases hp
/-- a wood and the law's own, alike, behind m deeds -/
def Jn (K : PySem.W.Frag) (H : Hp) (pw po : Addr) (m : Nat) : Prop := ∃ (L : Lay) (O : OLay), L.p = pw ∧ O.p = po ∧ Pair K H L O ∧ L.wd = O.wd ∧ Fine L.wd m
theorem Jn.same {K : PySem.W.Frag} {H H' : Hp} {pw po : Addr} {m : Nat} (j : Jn K H pw po m) (s : Same H H') : Jn K H' pw po m := by
  obtain ⟨L, O, a, b, P, e, f⟩ := j
  exact ⟨L, O, a, b, P.same s, e, f⟩
theorem Fine.names {L : Lay} {O : OLay} {m : Nat} (f : Fine L.wd m) (e : L.wd = O.wd) : NamesOk O := fun x hx => by
  have h : (x.n, x.row) ∈ L.wd.rows := by
    rw [e]
    exact List.mem_map.mpr ⟨x, hx, rfl⟩
  exact (f.ro _ h).1
end Vw
namespace Vw
open PySem PySem.Spec PyProof.Rows L2
/-! ### orders of sayings: the mathematics -/
def worthM (k n : Int) (r : Row) (ms : Str) : Int × Int :=
  if ms = "new" then (n, 1) else if ms = "old" then (0 - n, 1) else if ms = "best" then (r.ups - r.downs, 1) else if ms = "warm" then (10 * (r.ups - r.downs) - (k - r.time), 1)
  else if ms = "torn" then (min r.ups r.downs, 1) else (r.ups + 1, r.ups + r.downs + 2)
def worthN (M : Wd) (ms : Str) (n : Int) : Int × Int := match findR M.rows n with
  | some r => worthM M.clock n r ms
  | none => (0, 1)
def aheadW (a b : Int × Int) (n m : Int) : Bool := if a.1 * b.2 ≠ b.1 * a.2 then decide (b.1 * a.2 < a.1 * b.2) else decide (n < m)
def aheadN (M : Wd) (ms : Str) (n m : Int) : Bool := aheadW (worthN M ms n) (worthN M ms m) n m
theorem Row.ups0 (r : Row) : 0 ≤ r.ups ∧ 0 ≤ r.downs := ⟨by unfold Row.ups; omega, by unfold Row.downs; omega⟩
theorem worth_pos (k n : Int) (r : Row) (ms : Str) : 0 < (worthM k n r ms).2 := by
  have := r.ups0
  unfold worthM
  repeat' split
  all_goals show (0 : Int) < _
  all_goals omega
theorem worthN_pos (M : Wd) (ms : Str) (n : Int) : 0 < (worthN M ms n).2 := by
  unfold worthN
  split
  · exact worth_pos _ _ _ _
  · show (0 : Int) < 1
    decide
theorem cross_lt {a b c d e f : Int} (hb : 0 < b) (hd : 0 < d) (hf : 0 < f) (h1 : c * b < a * d) (h2 : e * d < c * f) : e * b < a * f := by
  have x1 : c * b * f < a * d * f := Int.mul_lt_mul_of_pos_right h1 hf
  have x2 : e * d * b < c * f * b := Int.mul_lt_mul_of_pos_right h2 hb
  have y1 : c * b * f = c * f * b := by rw [Int.mul_assoc, Int.mul_comm b f, ← Int.mul_assoc]
  have y2 : a * d * f = a * f * d := by rw [Int.mul_assoc, Int.mul_comm d f, ← Int.mul_assoc]
  have y3 : e * d * b = e * b * d := by rw [Int.mul_assoc, Int.mul_comm d b, ← Int.mul_assoc]
  have z : e * b * d < a * f * d := by omega
  exact Int.lt_of_mul_lt_mul_right z (Int.le_of_lt hd)
theorem cross_le {a b c d e f : Int} (hb : 0 < b) (hd : 0 < d) (hf : 0 < f) (h1 : c * b = a * d) (h2 : e * d = c * f) : e * b = a * f := by
  have x1 : c * b * f = a * d * f := by rw [h1]
  have x2 : e * d * b = c * f * b := by rw [h2]
  have y1 : c * b * f = c * f * b := by rw [Int.mul_assoc, Int.mul_comm b f, ← Int.mul_assoc]
  have y2 : a * d * f = a * f * d := by rw [Int.mul_assoc, Int.mul_comm d f, ← Int.mul_assoc]
  have y3 : e * d * b = e * b * d := by rw [Int.mul_assoc, Int.mul_comm d b, ← Int.mul_assoc]
  have z : e * b * d = a * f * d := by omega
  exact Int.eq_of_mul_eq_mul_right (by omega) z
theorem cross_lt_eq {a b c d e f : Int} (hb : 0 < b) (hd : 0 < d) (hf : 0 < f) (h1 : c * b < a * d) (h2 : e * d = c * f) : e * b < a * f := by
  have x1 : c * b * f < a * d * f := Int.mul_lt_mul_of_pos_right h1 hf
  have x2 : e * d * b = c * f * b := by rw [h2]
  have y1 : c * b * f = c * f * b := by rw [Int.mul_assoc, Int.mul_comm b f, ← Int.mul_assoc]
  have y2 : a * d * f = a * f * d := by rw [Int.mul_assoc, Int.mul_comm d f, ← Int.mul_assoc]
  have y3 : e * d * b = e * b * d := by rw [Int.mul_assoc, Int.mul_comm d b, ← Int.mul_assoc]
  have z : e * b * d < a * f * d := by omega
  exact Int.lt_of_mul_lt_mul_right z (Int.le_of_lt hd)
theorem cross_eq_lt {a b c d e f : Int} (hb : 0 < b) (hd : 0 < d) (hf : 0 < f) (h1 : c * b = a * d) (h2 : e * d < c * f) : e * b < a * f := by
  have x1 : c * b * f = a * d * f := by rw [h1]
  have x2 : e * d * b < c * f * b := Int.mul_lt_mul_of_pos_right h2 hb
  have y1 : c * b * f = c * f * b := by rw [Int.mul_assoc, Int.mul_comm b f, ← Int.mul_assoc]
  have y2 : a * d * f = a * f * d := by rw [Int.mul_assoc, Int.mul_comm d f, ← Int.mul_assoc]
  have y3 : e * d * b = e * b * d := by rw [Int.mul_assoc, Int.mul_comm d b, ← Int.mul_assoc]
  have z : e * b * d < a * f * d := by omega
  exact Int.lt_of_mul_lt_mul_right z (Int.le_of_lt hd)
theorem aheadW_iff (a b : Int × Int) (n m : Int) : aheadW a b n m = true ↔ b.1 * a.2 < a.1 * b.2 ∨ (b.1 * a.2 = a.1 * b.2 ∧ n < m) := by
  unfold aheadW
  split
  · rename_i h
    rw [decide_eq_true_iff]
    constructor
    · exact .inl
    · rintro (z | ⟨z, _⟩)
      · exact z
      · exact absurd z.symm h
  · rename_i h
    have h : a.1 * b.2 = b.1 * a.2 := by omega
    rw [decide_eq_true_iff]
    constructor
    · exact fun z => .inr ⟨h.symm, z⟩
    · rintro (z | ⟨_, z⟩)
      · omega
      · exact z
section
variable {M : Wd} {ms : Str}
theorem ahead_trans {a b c : Int} (h1 : aheadN M ms a b = true) (h2 : aheadN M ms b c = true) : aheadN M ms a c = true := by
  unfold aheadN at *
  rw [aheadW_iff] at *
  have pa := worthN_pos M ms a
  have pb := worthN_pos M ms b
  have pc := worthN_pos M ms c
  rcases h1 with h1 | ⟨h1, k1⟩
  · rcases h2 with h2 | ⟨h2, k2⟩
    · exact .inl (cross_lt pa pb pc h1 h2)
    · exact .inl (cross_lt_eq pa pb pc h1 h2)
  · rcases h2 with h2 | ⟨h2, k2⟩
    · exact .inl (cross_eq_lt pa pb pc h1 h2)
    · exact .inr ⟨cross_le pa pb pc h1 h2, by omega⟩
theorem ahead_asymm {a b : Int} (h1 : aheadN M ms a b = true) (h2 : aheadN M ms b a = true) : False := by
  unfold aheadN at *
  rw [aheadW_iff] at *
  rcases h1 with h1 | ⟨h1, k1⟩
  · rcases h2 with h2 | ⟨h2, k2⟩ <;> omega
  · rcases h2 with h2 | ⟨h2, k2⟩ <;> omega
theorem ahead_total {a b : Int} (h : a ≠ b) (h1 : aheadN M ms a b = false) : aheadN M ms b a = true := by
  have h1 : ¬ aheadN M ms a b = true := by rw [h1]; decide
  unfold aheadN at *
  rw [aheadW_iff] at *
  by_cases c : (worthN M ms a).1 * (worthN M ms b).2 = (worthN M ms b).1 * (worthN M ms a).2
  · exact .inr ⟨c, by
      have : ¬ a < b := fun z => h1 (.inr ⟨c.symm, z⟩)
      omega⟩
  · have : ¬ (worthN M ms b).1 * (worthN M ms a).2 < (worthN M ms a).1 * (worthN M ms b).2 := fun z => h1 (.inl z)
    exact .inl (by omega)
/-- ys are ns in order -/
structure IsOrd (M : Wd) (ms : Str) (ns ys : List Int) : Prop where
  perm : ys.Perm ns
  pw : ys.Pairwise fun a b => aheadN M ms a b = true
theorem IsOrd.eq {ns ys zs : List Int} (a : IsOrd M ms ns ys) (b : IsOrd M ms ns zs) : ys = zs :=
  (a.perm.trans b.perm.symm).eq_of_pairwise (fun x y _ _ h1 h2 => (ahead_asymm h1 h2).elim) a.pw b.pw
theorem ord_nil : IsOrd M ms [] [] := ⟨List.Perm.refl _, List.Pairwise.nil⟩
/-- one more is put in: all ahead of it first -/
theorem IsOrd.ins {ns ys : List Int} {n : Int} {k : Nat} (a : IsOrd M ms ns ys) (hn : n ∉ ns) (h1 : ∀ x ∈ ys.take k, aheadN M ms x n = true) (h2 : ∀ x, ys[k]? = some x → aheadN M ms x n = false) : IsOrd M ms (ns ++ [n]) (ys.take k ++ [n] ++ ys.drop k) := by
  have hy : n ∉ ys := fun z => hn (a.perm.mem_iff.mp z)
  have sp : (ys.take k ++ ys.drop k).Pairwise fun a b => aheadN M ms a b = true := by
    rw [List.take_append_drop]
    exact a.pw
  obtain ⟨p1, p2, p3⟩ := List.pairwise_append.mp sp
  have after : ∀ x ∈ ys.drop k, aheadN M ms n x = true := by
    cases q : ys.drop k with
    | nil => intro x hx; cases hx
    | cons c t =>
      have hc : ys[k]? = some c := by
        have := congrArg (fun l : List Int => l[0]?) q
        simpa using this
      have mc : c ∈ ys := List.mem_of_getElem? hc
      have nc : aheadN M ms n c = true := ahead_total (fun z => hy (z ▸ mc)) (h2 c hc)
      intro x hx
      rcases List.mem_cons.mp hx with rfl | hx
      · exact nc
      · rw [q] at p2
        exact ahead_trans nc ((List.pairwise_cons.mp p2).1 x hx)
  refine ⟨?_, ?_⟩
  · have e : (ys.take k ++ [n] ++ ys.drop k).Perm (n :: (ys.take k ++ ys.drop k)) := by
      rw [List.append_assoc]
      exact List.perm_middle
    rw [List.take_append_drop] at e
    exact e.trans ((a.perm.cons n).trans (List.perm_append_singleton n ns).symm)
  · rw [List.append_assoc]
    refine List.pairwise_append.mpr ⟨p1, List.pairwise_cons.mpr ⟨after, p2⟩, fun x hx y hy => ?_⟩
    rcases List.mem_cons.mp hy with rfl | hy
    · exact h1 x hx
    · exact p3 x hx y hy
/-- the best is taken out first -/
theorem IsOrd.best {left ys : List Int} {f : Int} (nd : left.Nodup) (hf : f ∈ left) (hb : ∀ x ∈ left, x ≠ f → aheadN M ms f x = true) (a : IsOrd M ms (left.erase f) ys) : IsOrd M ms left (f :: ys) := by
  refine ⟨(a.perm.cons f).trans (List.perm_cons_erase hf).symm, List.pairwise_cons.mpr ⟨fun x hx => ?_, a.pw⟩⟩
  have hx := a.perm.mem_iff.mp hx
  have := nd.mem_erase_iff.mp hx
  exact hb x this.2 this.1
theorem IsOrd.new_old {ns ys zs : List Int} (a : IsOrd M "new" ns ys) (b : IsOrd M "old" ns zs) (hr : ∀ n ∈ ns, ∃ r, findR M.rows n = some r) : ys = zs.reverse := by
  have c : IsOrd M "new" ns zs.reverse := by
    refine ⟨zs.reverse_perm.trans b.perm, List.pairwise_reverse.mpr (b.pw.imp_of_mem fun {x y} hx hy h => ?_)⟩
    obtain ⟨rx, fx⟩ := hr x (b.perm.mem_iff.mp hx)
    obtain ⟨ry, fy⟩ := hr y (b.perm.mem_iff.mp hy)
    unfold aheadN at h ⊢
    rw [aheadW_iff] at h ⊢
    have n1 : ¬ (("old" : Str) = "new") := by decide +kernel
    have wx : worthN M "new" x = (x, 1) := by unfold worthN; rw [fx]; exact if_pos rfl
    have wy : worthN M "new" y = (y, 1) := by unfold worthN; rw [fy]; exact if_pos rfl
    have vx : worthN M "old" x = (0 - x, 1) := by unfold worthN; rw [fx]; exact (if_neg n1).trans (if_pos rfl)
    have vy : worthN M "old" y = (0 - y, 1) := by unfold worthN; rw [fy]; exact (if_neg n1).trans (if_pos rfl)
    rw [vx, vy] at h
    rw [wx, wy]
    simp only [Int.mul_one] at h ⊢
    omega
  exact a.eq c
end
end Vw
namespace Vw
open PySem PySem.Spec PyProof.Rows L2
/-! ### woods by other names, votes turned about -/
structure Tw (f : Str → Str) (s : Int) : Prop where
  inj : ∀ a b, f a = f b → a = b
  nm : ∀ z, nameZ (f z) = nameZ z
  s : s = 1 ∨ s = -1
def mapVs (f : Str → Str) (s : Int) (vs : List (Str × Int)) : List (Str × Int) := vs.map fun v => (f v.1, s * v.2)
def mapRo (f : Str → Str) (s : Int) (r : Row) : Row := { r with who := f r.who, votes := mapVs f s r.votes }
def mapP (f : Str → Str) (s : Int) (p : Int × Row) : Int × Row := (p.1, mapRo f s p.2)
def mapRs (f : Str → Str) (s : Int) (rs : Rows) : Rows := rs.map (mapP f s)
def mapWd (f : Str → Str) (s : Int) (M : Wd) : Wd := ⟨mapRs f s M.rows, M.came, M.clock⟩
def mapDd (f : Str → Str) (s : Int) : Deed → Deed
  | .say n w t => .say n (f w) t
  | .tick k w => .tick k w
  | .change n w t => .change n (f w) t
  | .strike n w => .strike n (f w)
  | .vote n w y => .vote n (f w) (s * y)
def mapVal (s : Int) : Deed → V → V
  | .vote _ _ _, .int i => .int (s * i)
  | _, v => v
variable {f : Str → Str} {s : Int}
theorem find_map (rs : Rows) (n : Int) : findR (mapRs f s rs) n = (findR rs n).map (mapRo f s) := by
  unfold findR mapRs
  rw [List.find?_map]
  show Option.map _ (Option.map (mapP f s) (rs.find? fun p => decide (p.1 = n))) = _
  cases rs.find? fun p => decide (p.1 = n) <;> rfl
theorem keys_map (rs : Rows) : (mapRs f s rs).map (·.1) = rs.map (·.1) := by
  unfold mapRs
  rw [List.map_map]
  rfl
theorem up_map (rs : Rows) (n : Int) : upR (mapRs f s rs) n = upR rs n := by
  unfold upR
  rw [find_map]
  cases findR rs n <;> rfl
theorem above_map (rs : Rows) : ∀ (k : Nat) (n : Int), n.toNat ≤ k → aboveR (mapRs f s rs) n = aboveR rs n
  | k, n, hk => by
    rw [aboveR, up_map]
    conv => rhs; rw [aboveR]
    split
    · rename_i h
      cases k with
      | zero => omega
      | succ k => rw [above_map rs k _ (by omega)]
    · rfl
theorem above_map' (rs : Rows) (n : Int) : aboveR (mapRs f s rs) n = aboveR rs n := above_map rs n.toNat n (Nat.le_refl _)
theorem deep_map (rs : Rows) (n : Int) : deepI (mapRs f s rs) n = deepI rs n := by
  unfold deepI
  rw [above_map']
theorem filter_mapP {c : Int × Row → Bool} {d : Int × Row → Bool} (h : ∀ p, c (mapP f s p) = d p) (rs : Rows) : (mapRs f s rs).filter c = mapRs f s (rs.filter d) := by
  unfold mapRs
  rw [List.filter_map]
  congr 1
  exact List.filter_congr fun p _ => h p
theorem replies_map (rs : Rows) (n : Int) : repliesR (mapRs f s rs) n = repliesR rs n := by
  unfold repliesR
  rw [filter_mapP (d := fun p => decide (p.2.under = n)) (fun p => rfl), keys_map]
theorem beneath_map (rs : Rows) (n : Int) : beneathR (mapRs f s rs) n = beneathR rs n := by
  unfold beneathR
  rw [keys_map]
  exact List.filter_congr fun m _ => by rw [above_map']
theorem many_map (rs : Rows) (n : Int) : manyR (mapRs f s rs) n = manyR rs n := by
  unfold manyR
  rw [beneath_map]
  congr 1
  refine List.filter_congr fun m _ => ?_
  rw [find_map]
  cases findR rs m <;> rfl
theorem drop_map (rs : Rows) (n : Int) : dropR (mapRs f s rs) n = mapRs f s (dropR rs n) := filter_mapP (fun p => rfl) rs
theorem set_map (rs : Rows) (n : Int) (r : Row) : setR (mapRs f s rs) n (mapRo f s r) = mapRs f s (setR rs n r) := by
  unfold setR mapRs
  rw [List.map_map, List.map_map]
  refine List.map_congr_left fun p _ => ?_
  show (if p.1 = n then (n, mapRo f s r) else mapP f s p) = mapP f s (if p.1 = n then (n, r) else p)
  split <;> rfl
theorem gone_map (rs : Rows) : ∀ (k : Nat) (rs : Rows) (n : Int), n.toNat ≤ k → goneR (mapRs f s rs) n = (mapRs f s (goneR rs n).1, (goneR rs n).2)
  | k, rs, n, hk => by
    rw [goneR, find_map]
    conv => rhs; rw [goneR]
    cases q : findR rs n with
    | none => rfl
    | some r =>
      dsimp only [Option.map]
      rw [replies_map, drop_map]
      show (if h : 0 < n ∧ 0 ≤ r.under ∧ r.under < n ∧ r.struck = true ∧ repliesR rs n = [] then (let g := goneR (mapRs f s (dropR rs n)) r.under; (g.1, g.2 + 1)) else (mapRs f s rs, 0)) = _
      split
      · rename_i h
        cases k with
        | zero => omega
        | succ k => rw [gone_map rs k (dropR rs n) r.under (by omega)]
      · rfl
theorem gone_map' (rs : Rows) (n : Int) : goneR (mapRs f s rs) n = (mapRs f s (goneR rs n).1, (goneR rs n).2) := gone_map rs n.toNat rs n (Nat.le_refl _)
theorem votes_filter (h : Tw f s) (vs : List (Str × Int)) (c : Int → Bool) (d : Int → Bool) (e : ∀ x, c (s * x) = d x) : ((mapVs f s vs).filter fun p => c p.2).length = (vs.filter fun p => d p.2).length := by
  unfold mapVs
  rw [List.filter_map, List.length_map]
  congr 1
  exact List.filter_congr fun p _ => e p.2
theorem ups_one (h : Tw f 1) (r : Row) : (mapRo f 1 r).ups = r.ups ∧ (mapRo f 1 r).downs = r.downs := by
  constructor
  · show (((mapVs f 1 r.votes).filter fun p => decide (0 < p.2)).length : Int) = _
    rw [votes_filter h r.votes (fun x => decide (0 < x)) (fun x => decide (0 < x)) fun x => by rw [Int.one_mul]]
    rfl
  · show (((mapVs f 1 r.votes).filter fun p => decide (p.2 < 0)).length : Int) = _
    rw [votes_filter h r.votes (fun x => decide (x < 0)) (fun x => decide (x < 0)) fun x => by rw [Int.one_mul]]
    rfl
theorem ups_neg (h : Tw f (-1)) (r : Row) : (mapRo f (-1) r).ups = r.downs ∧ (mapRo f (-1) r).downs = r.ups := by
  constructor
  · show (((mapVs f (-1) r.votes).filter fun p => decide (0 < p.2)).length : Int) = _
    rw [votes_filter h r.votes (fun x => decide (0 < x)) (fun x => decide (x < 0)) fun x => decide_eq_decide.mpr (by omega)]
    rfl
  · show (((mapVs f (-1) r.votes).filter fun p => decide (p.2 < 0)).length : Int) = _
    rw [votes_filter h r.votes (fun x => decide (x < 0)) (fun x => decide (0 < x)) fun x => decide_eq_decide.mpr (by omega)]
    rfl
theorem points_map (h : Tw f s) (r : Row) : (mapRo f s r).points = s * r.points := by
  unfold Row.points
  rcases h.s with e | e
  · subst e
    obtain ⟨a, b⟩ := ups_one h r
    rw [a, b, Int.one_mul]
  · subst e
    obtain ⟨a, b⟩ := ups_neg h r
    rw [a, b]
    omega
theorem says_map (M : Wd) (n : Int) : sayingM (mapWd f s M) (.int n) = (sayingM M (.int n)).map fun p => (p.1, mapRo f s p.2) := by
  show (if 1 ≤ n ∧ n ≤ M.came then (findR (mapRs f s M.rows) n).map fun r => (n, r) else none) = Option.map _ (if 1 ≤ n ∧ n ≤ M.came then (findR M.rows n).map fun r => (n, r) else none)
  rw [find_map]
  split
  · cases findR M.rows n <;> rfl
  · rfl
theorem under_map (M : Wd) (d : PyData) : underOk (mapWd f s M) d = underOk M d := by
  cases d with
  | int n =>
    show (decide (n = 0) || (decide (1 ≤ n) && decide (n ≤ M.came) && (findR (mapRs f s M.rows) n).isSome)) = (decide (n = 0) || (decide (1 ≤ n) && decide (n ≤ M.came) && (findR M.rows n).isSome))
    rw [find_map]
    cases findR M.rows n <;> rfl
  | none => rfl
  | bool _ => rfl
  | str _ => rfl
  | list _ => rfl
  | tuple _ => rfl
  | dict _ => rfl
theorem own_map (h : Tw f s) (M : Wd) (n : Int) (w : Str) : ownM (mapWd f s M) (.int n) (.str (f w)) = (ownM M (.int n) (.str w)).map fun p => (p.1, mapRo f s p.2) := by
  unfold ownM
  rw [says_map]
  cases q : sayingM M (.int n) with
  | none => rfl
  | some p =>
    obtain ⟨m, r⟩ := p
    dsimp only [Option.map]
    have e1 : nameOk (.str (f w)) = nameOk (.str w) := h.nm w
    have e2 : isS (.str (f w)) (mapRo f s r).who = isS (.str w) r.who := decide_eq_decide.mpr ⟨fun e => h.inj _ _ e, fun e => congrArg f e⟩
    rw [e1, e2, show (mapRo f s r).struck = r.struck from rfl]
    split
    · rfl
    · split <;> rfl
theorem votesM_map (h : Tw f s) (vs : List (Str × Int)) (w : Str) (y : Int) : votesM (mapVs f s vs) (f w) (s * y) = mapVs f s (votesM vs w y) := by
  have e1 : (mapVs f s vs).filter (fun p => decide (p.1 ≠ f w)) = mapVs f s (vs.filter fun p => decide (p.1 ≠ w)) := by
    unfold mapVs
    rw [List.filter_map]
    congr 1
    exact List.filter_congr fun p _ => decide_eq_decide.mpr ⟨fun z e => z (congrArg f e), fun z e => z (h.inj _ _ e)⟩
  have e2 : s * y = 0 ↔ y = 0 := by
    rcases h.s with e | e <;> subst e <;> omega
  unfold votesM
  dsimp only
  rw [e1]
  by_cases c : y = 0
  · rw [if_pos (e2.mpr c), if_pos c]
  · rw [if_neg fun z => c (e2.mp z), if_neg c]
    unfold mapVs
    rw [List.map_append]
    rfl
theorem count_map (h : Tw f s) (y : Int) : isCount (.int (s * y)) (-1) 1 = isCount (.int y) (-1) 1 := by
  show (decide (-1 ≤ s * y) && decide (s * y ≤ 1)) = (decide (-1 ≤ y) && decide (y ≤ 1))
  rcases h.s with e | e <;> subst e
  · rw [Int.one_mul]
  · rw [Bool.and_comm]
    congr 1 <;> exact decide_eq_decide.mpr (by omega)
/-- a deed on the mapped wood -/
theorem act_map (h : Tw f s) (M : Wd) (d : Deed) : actM (mapWd f s M) (mapDd f s d) = (actM M d).map fun p => (mapVal s d p.1, mapWd f s p.2) := by
  cases d with
  | say n w t =>
    show (sayM (mapWd f s M) (.str (f w)) (.int n) (.str t)).map _ = Except.map _ ((sayM M (.str w) (.int n) (.str t)).map _)
    unfold sayM
    rw [under_map, show nameOk (.str (f w)) = nameOk (.str w) from h.nm w]
    split
    · rfl
    · split
      · rfl
      · split
        · rfl
        · dsimp only
          have e1 : (mapWd f s M).rows.length = M.rows.length := List.length_map _
          rw [e1, show deepI (mapWd f s M).rows n = deepI M.rows n from deep_map M.rows n]
          split
          · rfl
          · show Except.ok _ = Except.ok _
            congr 1
            show (V.int (M.came + 1), (⟨mapRs f s M.rows ++ [(M.came + 1, ⟨f w, n, t, M.clock, [], false⟩)], M.came + 1, M.clock⟩ : Wd)) = (V.int (M.came + 1), ⟨mapRs f s (M.rows ++ [(M.came + 1, ⟨w, n, t, M.clock, [], false⟩)]), M.came + 1, M.clock⟩)
            unfold mapRs
            rw [List.map_append]
            rfl
  | tick k w => rfl
  | change n w t =>
    show (changeM (mapWd f s M) (.int n) (.str (f w)) (.str t)).map _ = Except.map _ ((changeM M (.int n) (.str w) (.str t)).map _)
    unfold changeM
    rw [own_map h]
    cases q : ownM M (.int n) (.str w) with
    | error e => rfl
    | ok p =>
      obtain ⟨m, r⟩ := p
      dsimp only [Except.map]
      by_cases ht : textZ t = true
      · rw [if_pos ht, if_pos ht]
        show Except.ok _ = Except.ok _
        congr 1
        show (V.non, (⟨setR (mapRs f s M.rows) m (mapRo f s { r with text := t }), M.came, M.clock⟩ : Wd)) = (V.non, ⟨mapRs f s (setR M.rows m { r with text := t }), M.came, M.clock⟩)
        rw [set_map]
      · rw [if_neg ht, if_neg ht]
  | strike n w =>
    show (strikeM (mapWd f s M) (.int n) (.str (f w))).map _ = Except.map _ ((strikeM M (.int n) (.str w)).map _)
    unfold strikeM
    rw [own_map h]
    cases q : ownM M (.int n) (.str w) with
    | error e => rfl
    | ok p =>
      obtain ⟨m, r⟩ := p
      show Except.ok _ = Except.ok _
      congr 1
      show (V.int (goneR (setR (mapRs f s M.rows) m (mapRo f s { r with struck := true })) m).2, (⟨(goneR (setR (mapRs f s M.rows) m (mapRo f s { r with struck := true })) m).1, M.came, M.clock⟩ : Wd)) = _
      rw [set_map, gone_map']
      rfl
  | vote n w y =>
    show (voteM (mapWd f s M) (.int n) (.str (f w)) (.int (s * y))).map _ = Except.map _ ((voteM M (.int n) (.str w) (.int y)).map _)
    unfold voteM
    rw [says_map]
    cases q : sayingM M (.int n) with
    | none => rfl
    | some p =>
      obtain ⟨m, r⟩ := p
      dsimp only [Option.map]
      rw [show nameOk (.str (f w)) = nameOk (.str w) from h.nm w, count_map h]
      split
      · rfl
      · split
        · rfl
        · have e1 : ((mapRo f s r).who = f w ∨ (mapRo f s r).struck = true) ↔ (r.who = w ∨ r.struck = true) := ⟨fun z => z.imp (fun e => h.inj _ _ e) id, fun z => z.imp (fun e => congrArg f e) id⟩
          by_cases c : r.who = w ∨ r.struck = true
          · rw [if_pos (e1.mpr c), if_pos c]
            rfl
          · rw [if_neg fun z => c (e1.mp z), if_neg c]
            have e2 : ({ mapRo f s r with votes := votesM (mapRo f s r).votes (f w) (s * y) } : Row) = mapRo f s { r with votes := votesM r.votes w y } := by
              show ({ mapRo f s r with votes := votesM (mapVs f s r.votes) (f w) (s * y) } : Row) = _
              rw [votesM_map h]
              rfl
            show Except.ok _ = Except.ok _
            congr 1
            show (V.int (Row.points { mapRo f s r with votes := votesM (mapRo f s r).votes (f w) (s * y) }), (⟨setR (mapRs f s M.rows) m { mapRo f s r with votes := votesM (mapRo f s r).votes (f w) (s * y) }, M.came, M.clock⟩ : Wd)) = _
            rw [e2, points_map h, set_map]
            rfl
theorem actW_map (h : Tw f s) (M : Wd) (d : Deed) : actW (mapWd f s M) (mapDd f s d) = mapWd f s (actW M d) := by
  unfold actW
  rw [act_map h]
  cases actM M d <;> rfl
theorem worth_map (h : Tw f s) (M : Wd) {ms : Str} (hm : s = 1 ∨ ms = "new" ∨ ms = "old" ∨ ms = "torn") (n : Int) : worthN (mapWd f s M) ms n = worthN M ms n := by
  unfold worthN
  rw [show findR (mapWd f s M).rows n = (findR M.rows n).map (mapRo f s) from find_map M.rows n]
  cases findR M.rows n with
  | none => rfl
  | some r =>
    show worthM M.clock n (mapRo f s r) ms = worthM M.clock n r ms
    unfold worthM
    rcases h.s with e | e
    · subst e
      obtain ⟨a, b⟩ := ups_one h r
      rw [a, b]
      rfl
    · subst e
      obtain ⟨a, b⟩ := ups_neg h r
      rw [a, b]
      rcases hm with z | z | z | z
      · omega
      · rw [if_pos z, if_pos z]
      · subst z
        rfl
      · subst z
        show (min r.downs r.ups, (1 : Int)) = (min r.ups r.downs, 1)
        rw [show min r.downs r.ups = min r.ups r.downs from by omega]
theorem ord_map (h : Tw f s) {M : Wd} {ms : Str} (hm : s = 1 ∨ ms = "new" ∨ ms = "old" ∨ ms = "torn") {ns ys : List Int} (o : IsOrd (mapWd f s M) ms ns ys) : IsOrd M ms ns ys := by
  refine ⟨o.perm, o.pw.imp fun {a b} z => ?_⟩
  unfold aheadN at z ⊢
  rw [worth_map h M hm, worth_map h M hm] at z
  exact z
theorem sum_map (s : Int) : ∀ l : List Int, (l.map fun x => s * x).sum = s * l.sum
  | [] => by simp
  | x :: l => by
    rw [List.map_cons, List.sum_cons, List.sum_cons, sum_map s l, Int.mul_add]
theorem standing_map (h : Tw f s) (M : Wd) (w : Str) : standingM (mapWd f s M) (f w) = s * standingM M w := by
  unfold standingM
  rw [show (mapWd f s M).rows = mapRs f s M.rows from rfl, filter_mapP (d := fun p => decide (p.2.who = w) && !p.2.struck) fun p => ?_]
  · rw [← sum_map]
    unfold mapRs
    rw [List.map_map, List.map_map]
    congr 1
    exact List.map_congr_left fun p _ => points_map h p.2
  · show (decide (f p.2.who = f w) && !p.2.struck) = _
    congr 1
    exact decide_eq_decide.mpr ⟨fun e => h.inj _ _ e, fun e => congrArg f e⟩
theorem deed_map (h : Tw f s) {d : Deed} (ok : DeedOk d) : DeedOk (mapDd f s d) := by
  refine ⟨fun {n w t} e => ?_, fun {k w} e => ?_, fun {k w} e => ?_, fun {n w} e => ?_, fun {n w y} e => ?_⟩
  · cases d with
    | say n' w' t' =>
      rcases e with e | e
      · cases e
        have := ok.who (.inl rfl)
        exact ⟨(h.nm _).trans this.1, this.2⟩
      · cases e
    | change n' w' t' =>
      rcases e with e | e
      · cases e
      · cases e
        have := ok.who (.inr rfl)
        exact ⟨(h.nm _).trans this.1, this.2⟩
    | tick k w => rcases e with e | e <;> cases e
    | strike n w => rcases e with e | e <;> cases e
    | vote n w y => rcases e with e | e <;> cases e
  · cases d <;> cases e
    exact ok.tick rfl
  · cases d <;> cases e
    exact ok.tickn rfl
  · cases d <;> cases e
    exact (h.nm _).trans (ok.strike rfl)
  · cases d <;> cases e
    have := ok.vote rfl
    refine ⟨(h.nm _).trans this.1, ?_⟩
    have h2 := this.2
    rcases h.s with z | z <;> subst z <;> omega
/-! ### the two maps -/
def nameS (z : Str) : Str := if z = "ann" then "cy" else if z = "bob" then "dd" else if z = "cy" then "eve" else if z = "dd" then "fay" else if z = "eve" then "ann" else if z = "fay" then "bob" else z
theorem name3 (z : Str) : nameS (nameS (nameS z)) = z := by
  by_cases h1 : z = "ann"
  · subst h1; decide +kernel
  by_cases h2 : z = "bob"
  · subst h2; decide +kernel
  by_cases h3 : z = "cy"
  · subst h3; decide +kernel
  by_cases h4 : z = "dd"
  · subst h4; decide +kernel
  by_cases h5 : z = "eve"
  · subst h5; decide +kernel
  by_cases h6 : z = "fay"
  · subst h6; decide +kernel
  have e : nameS z = z := by
    unfold nameS
    rw [if_neg h1, if_neg h2, if_neg h3, if_neg h4, if_neg h5, if_neg h6]
  rw [e, e, e]
theorem name_ok (z : Str) : nameZ (nameS z) = nameZ z := by
  by_cases h1 : z = "ann"
  · subst h1; decide +kernel
  by_cases h2 : z = "bob"
  · subst h2; decide +kernel
  by_cases h3 : z = "cy"
  · subst h3; decide +kernel
  by_cases h4 : z = "dd"
  · subst h4; decide +kernel
  by_cases h5 : z = "eve"
  · subst h5; decide +kernel
  by_cases h6 : z = "fay"
  · subst h6; decide +kernel
  unfold nameS
  rw [if_neg h1, if_neg h2, if_neg h3, if_neg h4, if_neg h5, if_neg h6]
theorem tw_name : Tw nameS 1 := ⟨fun a b e => by rw [← name3 a, e, name3], name_ok, .inl rfl⟩
theorem tw_turn : Tw id (-1) := ⟨fun _ _ e => e, fun _ => rfl, .inr rfl⟩
abbrev turnW (M : Wd) : Wd := mapWd id (-1) M
abbrev nameW (M : Wd) : Wd := mapWd nameS 1 M
abbrev turnD (d : Deed) : Deed := mapDd id (-1) d
abbrev nameD (d : Deed) : Deed := mapDd nameS 1 d
/-- what the second wood tells -/
def backD : Deed → PyData → PyData
  | .vote _ _ _, .int i => .int (-i)
  | _, x => x
theorem turn_told (M : Wd) (d : Deed) : actD (turnW M) (turnD d) = backD d (actD M d) := by
  unfold actD
  rw [act_map tw_turn]
  cases e : actM M d with
  | error r => cases d <;> rfl
  | ok p =>
    obtain ⟨v, M'⟩ := p
    have hv := act_val e
    rcases hv with rfl | ⟨i, rfl⟩
    · cases d <;> rfl
    · cases d <;> first | rfl | (show PyData.int (-1 * i) = .int (-i); rw [Int.neg_one_mul])
theorem name_told (M : Wd) (d : Deed) : actD (nameW M) (nameD d) = actD M d := by
  unfold actD
  rw [act_map tw_name]
  cases e : actM M d with
  | error r => rfl
  | ok p =>
    obtain ⟨v, M'⟩ := p
    have hv := act_val e
    rcases hv with rfl | ⟨i, rfl⟩
    · cases d <;> rfl
    · cases d <;> first | rfl | (show PyData.int (1 * i) = .int i; rw [Int.one_mul])
end Vw
namespace Vw
open PySem PySem.Spec PyProof.Rows L2
/-! ### loops over lists of any data; what is refused -/
theorem dps_get {K : PySem.W.Frag} {H : Hp} : ∀ {xs : List V} {ds : List PyData} {i : Nat} {x : V}, DpAll K H xs ds → xs[i]? = some x → ∃ d, ds[i]? = some d ∧ Dp K H x d
  | _, _, i, x, .nil, h => by simp at h
  | _, _, 0, x, .cons a t, h => by
    cases h
    exact ⟨_, rfl, a⟩
  | _, _, i + 1, x, .cons a t, h => by
    obtain ⟨d, h1, h2⟩ := dps_get (i := i) t (by simpa using h)
    exact ⟨d, by simpa using h1, h2⟩
theorem dps_len {K : PySem.W.Frag} {H : Hp} : ∀ {xs : List V} {ds : List PyData}, DpAll K H xs ds → xs.length = ds.length
  | _, _, .nil => rfl
  | _, _, .cons a t => by
    have := dps_len t
    simp [this]
theorem forD2 {K : PySem.W.Frag} {te0 : TE} {g : TG} {tb : TS} {D : Ends} {σ : L2.St} {H : Hp} (ds : List PyData) (src : ∀ R : VK, (∀ p H1 xs, Same H H1 → SqL K H1 p xs → DpAll K H1 xs ds → R (.ref p) H1) → te0 σ H R)
    (Pv : Nat → L2.St → Hp → Prop) (h0 : ∀ H1, Same H H1 → Pv 0 σ H1)
    (hs : ∀ i d x σ' H' (D' : Ends), ds[i]? = some d → Dp K H' x d → Pv i σ' H' → (∀ σ2 H2, Pv (i + 1) σ2 H2 → LK H' H2 → D'.nx σ2 H2) → (∀ σ2 H2, Pv (i + 1) σ2 H2 → LK H' H2 → D'.ct σ2 H2) → D'.rt = D.rt → D'.bk = D.nx → g x σ' H' fun σ2 H2 => tb D' σ2 H2)
    (hd : ∀ σ' H', Pv ds.length σ' H' → D.nx σ' H') : tFor (iList K te0) g tb D σ H := by
  refine src _ fun p H1 xs s1 hp hx => ⟨p, rfl, ⟨_, hp⟩, ?_⟩
  have ln := dps_len hx
  have w : Walk (Itl K p) xs.length (fun H => SqL K H p xs) (YAt xs) := walk_list (K := K) (a := p) (xs := xs)
  refine for_it w (fun i σ' H' => Pv i σ' H' ∧ SqL K H' p xs ∧ DpAll K H' xs ds) ⟨h0 H1 s1, hp, hx⟩ (fun i σ' H' _ h => h.2.1) (fun i x σ' H2 H3 hi p1 y => ?_) (fun σ' H' h => hd σ' H' (ln ▸ h.1))
  obtain ⟨rfl, hx2⟩ := y
  obtain ⟨d, h1, h2⟩ := dps_get p1.2.2 hx2
  exact hs i d x σ' _ _ h1 h2 p1.1 (fun σ2 H2 a b => ⟨a, b.seq p1.2.1, dps_lk b p1.2.2⟩) (fun σ2 H2 a b => ⟨a, b.seq p1.2.1, dps_lk b p1.2.2⟩) rfl rfl
section
variable {K : PySem.W.Frag} {H : Hp} {Q : VK} {e : Er}
theorem told_bad (h : e.cls ∈ errs) (q : ∀ r H', Same H H' → H' r = some (.tup [.str "refused", .str e.cls]) → Q (.ref r) H') : Bad K (eTold K errs Q) e H := ⟨e.cls, h, rfl, rfl, fun r H' n s hr => q r H' s hr⟩
theorem refu_ne {x : Str} {r r2 : Addr} (h1 : H r = some (.tup [.str "refused", .str x])) (h2 : H r2 = some (.tup [.str "refused", .str x])) (q : Q (.bl false) H) (hx : PyData.strOk x = true := by decide +kernel) : rNeD K (.ref r) (.ref r2) H Q := by
  have sh : SeqAt.shaped (.tuple [.str "refused", .str x]) = true := by
    have h0 : PyData.strOk "refused" = true := by decide +kernel
    simp [SeqAt.shaped, PyData.canLay0, PyData.canLayAll0, PyData.depth, PyData.depthAll, hx, h0]
  refine use_neD (dp_refu h1) (dp_refu h2) sh sh ?_
  have e : PyData.eqv (.tuple [.str "refused", .str x]) (.tuple [.str "refused", .str x]) = true := by simp [PyData.eqv, PyData.eqvAll]
  rw [e]
  exact q
end
end Vw
namespace Vw
open PySem PySem.Spec PyProof.Rows L2
/-! ### uses where a wood refuses -/
section
variable {K : PySem.W.Frag} {H : Hp} {L : Lay} {Q : VK} {E : XK} {x y z : V} {d b t : PyData} {e : Er}
theorem use_changeE (W : WoodAt K H L) (hx : Dp K H x d) (hy : Dp K H y b) (hz : Dp K H z t) (sb : Short b) (st : Short t) (h : changeM L.wd d b t = .error e) (q : ∀ H', Same H H' → Bad K E e H') : spChange K [.ref L.p, x, y, z] H Q E :=
  ⟨L, x, y, z, d, b, t, rfl, W, hx, hy, hz, sb, st, ⟨(fun M z => by rw [h] at z; cases z), fun e' z => by rw [h] at z; cases z; exact q⟩⟩
theorem use_strikeE (W : WoodAt K H L) (G : Good L.wd) (hx : Dp K H x d) (hy : Dp K H y b) (sb : Short b) (h : strikeM L.wd d b = .error e) (q : ∀ H', Same H H' → Bad K E e H') : spStrike K [.ref L.p, x, y] H Q E :=
  ⟨L, x, y, d, b, rfl, W, G.wf, G.l64, hx, hy, sb, (fun m M z => by rw [h] at z; cases z), fun e' z => by rw [h] at z; cases z; exact q⟩
theorem use_voteE (W : WoodAt K H L) (vl : ∀ e ∈ L.ents, e.row.votes.length < 99999) (hx : Dp K H x d) (hy : Dp K H y b) (hz : Dp K H z t) (sb : Short b) (h : voteM L.wd d b t = .error e) (q : ∀ H', Same H H' → Bad K E e H') : spVote K [.ref L.p, x, y, z] H Q E :=
  ⟨L, x, y, z, d, b, t, rfl, W, hx, hy, hz, sb, vl, (fun p M z => by rw [h] at z; cases z), fun e' z => by rw [h] at z; cases z; exact q⟩
theorem use_sayE (W : WoodAt K H L) (G : Good L.wd) (hx : Dp K H x b) (hy : Dp K H y d) (hz : Dp K H z t) (sb : Short b) (sd : SeqAt.shaped d = true) (st : Short t) (h : sayM L.wd b d t = .error e) (q : ∀ H', Same H H' → Bad K E e H') : spSay K [.ref L.p, x, y, z] H Q E :=
  ⟨L, x, y, z, b, d, t, rfl, W, G.wf, G.le, hx, hy, hz, sb, sd, st, (fun p M z => by rw [h] at z; cases z), fun e' z => by rw [h] at z; cases z; exact q⟩
theorem says_none (h : sayingM L.wd d = none) : sayingD L d = none := by
  rw [sayingME] at h
  cases q : sayingD L d with
  | none => rfl
  | some e => rw [q] at h; cases h
theorem use_lookE (W : WoodAt K H L) (hx : Dp K H x d) (h : sayingM L.wd d = none) (q : Bad K E .no H) : spLook K [.ref L.p, x] H Q E :=
  ⟨L, x, d, rfl, W, hx, (fun e he => by rw [says_none h] at he; cases he), fun _ => q⟩
theorem use_votesOfE (W : WoodAt K H L) (hx : Dp K H x d) (h : sayingM L.wd d = none) (q : Bad K E .no H) : spVotesOf K [.ref L.p, x] H Q E :=
  ⟨L, x, d, rfl, W, hx, (fun e he => by rw [says_none h] at he; cases he), fun _ => q⟩
theorem use_belowE (W : WoodAt K H L) (G : Good L.wd) (hx : Dp K H x d) (sd : SeqAt.shaped d = true) (h : underOk L.wd d = false) (q : Bad K E .no H) : spBelow K 8 [.ref L.p, x] H Q E :=
  ⟨L, x, d, rfl, W, G, hx, sd, fun _ _ => by omega, fun _ => q, fun n e z => by rw [h] at z; cases z⟩
theorem use_manyE (W : WoodAt K H L) (G : Good L.wd) (hx : Dp K H x d) (sd : SeqAt.shaped d = true) (h : underOk L.wd d = false) (q : Bad K E .no H) : spMany K [.ref L.p, x] H Q E :=
  ⟨L, x, d, rfl, W, G, hx, sd, fun _ => q, fun n e z => by rw [h] at z; cases z⟩
theorem use_standingE (W : WoodAt K H L) (hx : Dp K H x d) (sd : Short d) (h : nameOk d = false) (q : ∀ H', Same H H' → Bad K E .name H') : spStanding K [.ref L.p, x] H Q E :=
  ⟨L, x, d, rfl, W, hx, sd, fun _ => q, fun z e n => by rw [h] at n; cases n⟩
theorem use_tickE (W : WoodAt K H L) (hx : Dp K H x d) (h : isCount d 0 1000 = false) (q : Bad K E .number H) : spTick K [.ref L.p, x] H Q E :=
  ⟨L, x, d, rfl, W, hx, (fun n e z => by rw [h] at z; cases z), fun _ => q⟩
end
/-! ### a list of what was told -/
structure Sm (K : PySem.W.Frag) (H0 H : Hp) (L : Lay) (sl : Addr) (c : Str) (rs : List Addr) : Prop where
  x : LamX.ExtN H0 H
  n : ∀ o, H0 sl = some o → ∃ ps, o = .tbl ps
  W : WoodAt K H L
  T : LamX.Tabs (tabs K) H
  l : H sl = some (.lst (rs.map V.ref))
  t : ∀ r ∈ rs, H r = some (.tup [.str "refused", .str c])
theorem Sm.ext {K : PySem.W.Frag} {H0 H H' : Hp} {L : Lay} {sl : Addr} {c : Str} {rs : List Addr} (S : Sm K H0 H L sl c rs) (x : LamX.ExtN H H') (T : LamX.Tabs (tabs K) H') : Sm K H0 H' L sl c rs :=
  ⟨S.x.trans x, S.n, S.W.ext x, T, (LK.ext x).lst S.l, fun r hr => (LK.ext x).tup (S.t r hr)⟩
theorem Sm.ty {K : PySem.W.Frag} {H0 H : Hp} {L : Lay} {sl : Addr} {c : Str} {rs : List Addr} (S : Sm K H0 H L sl c rs) : tyV K "list" (V.ref sl) H := .inl ⟨rfl, _, SqL.of S.l⟩
theorem not_code_lst {xs : List V} : ∀ c q, HO.lst xs ≠ LamX.CodeO c q := by
  intro c q z
  unfold LamX.CodeO at z
  cases z
theorem WoodAt.updL {K : PySem.W.Frag} {H : Hp} {L : Lay} {d : Addr} {o : HO} {k : List V} (W : WoodAt K H L) (hd : H d = some (.lst k)) : WoodAt K (upd H d o) L := W.wk fun b u h p => by
  rw [upd_ne (fun z => by rw [z, hd] at h; cases h; exact not_lst _ p)]
  exact h
theorem upd_tabsL {T : List (Addr × Str)} {H : Hp} {d : Addr} {o : HO} {k : List V} (t : LamX.Tabs T H) (hd : H d = some (.lst k)) : LamX.Tabs T (upd H d o) := upd_tabs t hd (by intro ps z; cases z) not_code_lst
/-- some.append(told) -/
theorem Sm.app {K : PySem.W.Frag} {H0 H H' : Hp} {L : Lay} {sl r : Addr} {c : Str} {rs : List Addr} {Q : VK} (S : Sm K H0 H L sl c rs) (s : Same H H') (e : H' r = some (.tup [.str "refused", .str c])) (hl : rs.length < 100) (q : ∀ H2, Sm K H0 H2 L sl c (rs ++ [r]) → Q .non H2) : rAppend (.ref sl) [.ref r] H' Q := by
  have S' := S.ext (LamX.ExtN.of s) (S.T.ext s)
  have hne : ∀ {c : Addr} {xs : List V}, H' c = some (.tup xs) → c ≠ sl := fun {c xs} hc z => by
    rw [z, S'.l] at hc
    cases hc
  refine ⟨sl, _, _, rfl, rfl, S'.l, by rw [List.length_map, sizeLine_eq]; omega, q _ ⟨fun b o h n => ?_, S.n, S'.W.updL S'.l, upd_tabsL S'.T S'.l, ?_, fun r' hr' => ?_⟩⟩
  · rw [upd_ne (fun z => ?_)]
    · exact S'.x b o h n
    · rw [z] at h
      obtain ⟨ps, e⟩ := S.n o h
      exact n ps e
  · rw [upd_same, List.map_append]
    rfl
  · rcases List.mem_append.mp hr' with hr' | hr'
    · rw [upd_ne (hne (S'.t r' hr'))]
      exact S'.t r' hr'
    · rw [List.mem_singleton.mp hr', upd_ne (hne e)]
      exact e
theorem dps_refs {K : PySem.W.Frag} {H : Hp} {c : Str} : ∀ {rs : List Addr}, (∀ r ∈ rs, H r = some (.tup [.str "refused", .str c])) → DpAll K H (rs.map V.ref) (List.replicate rs.length (refD c))
  | [], _ => .nil
  | r :: t, h => .cons (dp_refu (h r List.mem_cons_self)) (dps_refs fun r hr => h r (List.mem_cons_of_mem _ hr))
theorem eqv_refs (c : Str) : ∀ n, PyData.eqvAll (List.replicate n (refD c)) (List.replicate n (refD c)) = true
  | 0 => by simp [PyData.eqvAll]
  | n + 1 => by
    rw [List.replicate_succ]
    simp [PyData.eqvAll, refD, PyData.eqv]
    exact eqv_refs c n
theorem shaped_refs {c : Str} (hx : PyData.strOk c = true) (n : Nat) : SeqAt.shaped (.list (List.replicate n (refD c))) = true := by
  have h0 : PyData.strOk "refused" = true := by decide +kernel
  have a : ∀ n, PyData.canLayAll0 (List.replicate n (refD c)) = true := fun n => by
    induction n with
    | zero => rfl
    | succ n ih => rw [List.replicate_succ]; simp [PyData.canLayAll0, refD, PyData.canLay0, hx, h0]; exact ih
  have b : ∀ n, PyData.depthAll (List.replicate n (refD c)) ≤ 5 := fun n => by
    induction n with
    | zero => exact Nat.zero_le _
    | succ n ih =>
      rw [List.replicate_succ]
      have : PyData.depth (refD c) ≤ 5 := by simp [refD, PyData.depth, PyData.depthAll]
      simp only [PyData.depthAll]
      omega
  have := b n
  simp [SeqAt.shaped, PyData.canLay0, PyData.depth, a n]
  omega
section
variable {K : PySem.W.Frag} {H0 H H' : Hp} {L : Lay} {sl t l : Addr} {c : Str} {rs : List Addr} {Q : VK} {k : Int}
theorem flat_rep {α : Type} (a : α) : ∀ n : Nat, (List.replicate n [a]).flatten = List.replicate n a
  | 0 => rfl
  | n + 1 => by rw [List.replicate_succ, List.flatten_cons, flat_rep a n, List.replicate_succ]; rfl
theorem dps_rep {x : V} {d : PyData} (h : Dp K H x d) : ∀ n, DpAll K H (List.replicate n x) (List.replicate n d)
  | 0 => .nil
  | n + 1 => by
    rw [List.replicate_succ, List.replicate_succ]
    exact .cons h (dps_rep h n)
theorem Sm.dp (S : Sm K H0 H L sl c rs) (s : Same H H') : Dp K H' (.ref sl) (.list (List.replicate rs.length (refD c))) := .lst (SqL.of (s _ _ S.l)) (dps_refs fun r hr => s _ _ (S.t r hr))
/-- some == [("refused", c)] * k -/
theorem Sm.eq (S : Sm K H0 H L sl c rs) (s : Same H H') (hk : rs.length = k.toNat) (ht : H' t = some (.tup [.str "refused", .str c])) (hl : H' l = some (.lst (List.replicate k.toNat [V.ref t]).flatten)) (q : Q (.bl true) H') (hx : PyData.strOk c = true := by decide +kernel) : rEqD K (.ref sl) (.ref l) H' Q := by
  rw [flat_rep] at hl
  refine use_eqD (S.dp s) (.lst (SqL.of hl) (dps_rep (dp_refu ht) _)) (shaped_refs hx _) (shaped_refs hx _) ?_
  have e : PyData.eqv (.list (List.replicate rs.length (refD c))) (.list (List.replicate k.toNat (refD c))) = true := by
    rw [hk]
    simp only [PyData.eqv]
    exact eqv_refs c _
  rw [show PyData.tuple [PyData.str (Str.ofString "refused"), PyData.str c] = refD c from rfl, e]
  exact q
theorem Sm.ne (S : Sm K H0 H L sl c rs) (s : Same H H') (hk : rs.length = k.toNat) (ht : H' t = some (.tup [.str "refused", .str c])) (hl : H' l = some (.lst (List.replicate k.toNat [V.ref t]).flatten)) (q : Q (.bl false) H') (hx : PyData.strOk c = true := by decide +kernel) : rNeD K (.ref sl) (.ref l) H' Q := by
  rw [flat_rep] at hl
  refine use_neD (S.dp s) (.lst (SqL.of hl) (dps_rep (dp_refu ht) _)) (shaped_refs hx _) (shaped_refs hx _) ?_
  have e : PyData.eqv (.list (List.replicate rs.length (refD c))) (.list (List.replicate k.toNat (refD c))) = true := by
    rw [hk]
    simp only [PyData.eqv]
    exact eqv_refs c _
  rw [show PyData.tuple [PyData.str (Str.ofString "refused"), PyData.str c] = refD c from rfl, e]
  exact q
/-- [told] -/
theorem Sm.one {H1 : Hp} {r : Addr} (W : WoodAt K H1 L) (T : LamX.Tabs (tabs K) H1) (x : LamX.ExtN H0 H1) (e : H1 r = some (.tup [.str "refused", .str c])) (q : ∀ sl H2, Sm K H0 H2 L sl c [r] → Q (.ref sl) H2) : New (.lst [.ref r]) H1 Q := fun sl H2 n2 s2 e2 =>
  q sl H2 ⟨x.trans (LamX.ExtN.of s2), (fun o h => by
    by_cases c : ∃ ps, o = .tbl ps
    · exact c
    · have := x sl o h fun ps z => c ⟨ps, z⟩
      rw [n2] at this
      cases this), W.same s2, T.ext s2, e2, (fun r' hr' => by
    rw [List.mem_singleton.mp hr']
    exact s2 _ _ e)⟩
end
end Vw
namespace Vw
open PySem PySem.Spec PyProof.Rows L2
/-- the items of xs[lo:hi:st] -/
def pickV (xs : List V) (lo hi st : Option Int) : List V :=
  (sliceRange (sliceBounds lo hi st xs.length).1 (sliceBounds lo hi st xs.length).2.1 (sliceBounds lo hi st xs.length).2.2).filterMap (xs[·]?)
theorem pickV_mem {xs : List V} {lo hi st : Option Int} {y : V} (h : y ∈ pickV xs lo hi st) : y ∈ xs := by
  obtain ⟨i, _, hi⟩ := List.mem_filterMap.mp h
  exact List.mem_of_getElem? hi
theorem pickV_ints (ns : List Int) (lo hi st : Option Int) : ∃ ms : List Int, pickV (ns.map V.int) lo hi st = ms.map V.int ∧ ∀ m ∈ ms, m ∈ ns := by
  unfold pickV
  generalize sliceRange _ _ _ = is
  refine ⟨is.filterMap (ns[·]?), ?_, fun m hm => ?_⟩
  · rw [List.map_filterMap]
    congr 1
    funext i
    rw [List.getElem?_map]
  · obtain ⟨i, _, hi⟩ := List.mem_filterMap.mp hm
    exact List.mem_of_getElem? hi
theorem vals_pick {xs : List V} {us : List Value} (r : Vals xs us) (is : List Nat) : Vals (is.filterMap (xs[·]?)) (is.filterMap (us[·]?)) := by
  induction is with
  | nil => exact .nil
  | cons i t ih =>
    rw [List.filterMap_cons, List.filterMap_cons]
    cases q : xs[i]? with
    | none =>
      have z : us[i]? = none := by
        rw [List.getElem?_eq_none_iff] at q ⊢
        rw [← r.length]
        exact q
      rw [z]
      exact ih
    | some x =>
      obtain ⟨u, hu, ru⟩ := r.get q
      rw [hu]
      exact .cons ru ih
theorem pickV_length (xs : List V) (lo hi st : Option Int) (us : List Value) (r : Vals xs us) : (pickV xs lo hi st).length ≤ xs.length := by
  have e := (vals_pick r (sliceRange (sliceBounds lo hi st xs.length).1 (sliceBounds lo hi st xs.length).2.1 (sliceBounds lo hi st xs.length).2.2)).length
  unfold pickV
  rw [e]
  have h := slicePick_size_le us.toArray lo hi st
  unfold slicePick at h
  rw [List.size_toArray, List.size_toArray, ← r.length] at h
  simpa using h
def tStepL (K : PySem.W.Frag) (te : TE) (tl th tst : TO) : TE := fun σ H Q => te σ H fun x H1 => tl σ H1 fun l H2 => th σ H2 fun u H3 => tst σ H3 fun st H4 => ∃ a xs, x = .ref a ∧ SqL K H4 a xs ∧ st ≠ some 0 ∧ New (.lst (pickV xs l u st)) H4 Q
section
variable {X : Cx}
theorem pe_stepL {e st : Expr} {lo hi : Option Expr} {te : TE} {tl th tst : TO} {p3 pos : Pos} (he : PE X e te) (hl : PO X lo tl) (hu : PO X hi th) (hst : PO X (some st) tst) : PE X (.Subscript e (.Slice lo hi (some st) p3) pos) (tStepL X.K te tl th tst) := by
  refine ⟨fun pins s σ H Q I h => ?_⟩
  refine Subscript_ (thn (he.run pins s σ H _ I h) fun v s1 ⟨x, H1, I1, r1, q1⟩ => ?_)
  refine wpAny_Slice (thn (hl.run pins s1 σ H1 _ I1 q1) fun vl s2 ⟨l, H2, I2, pl, q2⟩ => thn (hu.run pins s2 σ H2 _ I2 q2) fun vu s3 ⟨u, H3, I3, pu, q3⟩ => thn (hst.run pins s3 σ H3 _ I3 q3) fun vs s4 ⟨o, H4, I4, ps, q4⟩ => ?_)
  obtain ⟨a, xs, ex, hx, o0, q⟩ := q4
  subst ex
  cases r1
  have I5 : Inv X pins σ H4 { s4 with heap := s4.heap.push { cls := .type "slice", data := .fields #[vl, vu, vs] } } := I4.kept (t' := s4.toks) fun b ob q => Heap.get?_push_of_some _ q
  obtain ⟨its, r, ht, hz⟩ := I5.list hx
  have hlen := r.length
  show wpAny (model X.prog X.w) X.A (subscriptTail e (.Slice lo hi (some st) p3) (.ref a) (.ref s4.heap.objs.size)) (EP X pins σ Q) X.xe { s4 with heap := s4.heap.push { cls := .type "slice", data := .fields #[vl, vu, vs] } }
  refine tail_any (ops := [.ref a, .ref s4.heap.objs.size]) ht.isList.typeIs (PySem.slot_list_getitem.lookup) ?_ (by with_unfolding_all rfl)
  refine wpAny_getItem_list_slice ht.isList (Heap.IsSliceOf.new _ vl vu vs) pl pu ps o0 ?_ (by rw [List.size_toArray]; omega)
  refine ⟨.ref _, _, I5.laid (t' := s4.toks) (o := .lst (pickV xs l u o)) (fun b ob q => Heap.get?_push_of_some _ q) (Nat.le_refl _) ?_, rfl, q.use _ (I5.hok.fresh (Nat.le_refl _))⟩
  refine ⟨Nat.le_trans (pickV_length xs l u o its r) hz, _, 0, ?_, Heap.get?_push_size _ rfl⟩
  unfold pickV
  have e := vals_pick r (sliceRange (sliceBounds l u o xs.length).1 (sliceBounds l u o xs.length).2.1 (sliceBounds l u o xs.length).2.2)
  have e2 : its.toArray.size = xs.length := by rw [List.size_toArray, hlen]
  have e3 : (fun i : Nat => its.toArray[i]?) = fun i : Nat => its[i]? := by
    funext i
    simp
  rw [← e2] at e ⊢
  rw [← e3] at e
  exact e
/-- xs[::-1], all but the list forgotten -/
def tRevN (K : PySem.W.Frag) (te : TE) : TE := fun σ H Q => te σ H fun x H1 => ∃ a xs, x = .ref a ∧ SqL K H1 a xs ∧ New (.lst xs.reverse) H1 Q
end
def rRepN : R2 := fun x y H Q => ∃ l k xs, x = .ref l ∧ y = .int k ∧ H l = some (.lst xs) ∧ -(2 ^ 63) ≤ k ∧ k < 2 ^ 63 ∧ xs.length * k.toNat ≤ sizeLine ∧ New (.lst (List.replicate k.toNat xs).flatten) H Q
theorem op_repN {X : Cx} : OpR X (binaryOp .Mult) rRepN := fun pins s σ H x y v u Q I rx ry h => by
  obtain ⟨l, k, xs, h1, h2, h3, h4, h5, h6, h7⟩ := h
  exact op_rep pins s σ H x y v u Q I rx ry ⟨l, k, xs, h1, h2, h3, h4, h5, h6, h7.use⟩
/-- sorted(d), d's keys texts, as many as there may be -/
def rSortedSN : List V → Hp → VK → Prop := fun xs H Q => ∃ (a : Addr) (kvs : List (Key × V)) (ks : List Str), xs = [.ref a] ∧ Rd H a (.dK kvs) ∧ kvs.map (·.1) = ks.map Sum.inr ∧ ks.length ≤ 5000 ∧ ∀ ys : List Str, ys.Perm ks → sortedS ys = true → New (.lst (ys.map V.str)) H Q
theorem txts_of_keys {vs : List (Key × Value)} {ks : List Str} {acc : Array Value} (hk : vs.map (·.1) = ks.map Sum.inr) (ln : acc.toList.length = ks.length) (ha : ∀ (j : Nat) (v : Value), acc[j]? = some v → ∃ (k : Key) (x : Value), vs[j]? = some (k, x) ∧ keyIs k v = true) : StrsAre acc.toList ks := by
  refine strs_at ln fun j v hj => ?_
  obtain ⟨k, x, h1, h2⟩ := ha j v (by rw [← Array.getElem?_toList]; exact hj)
  have h3 : (ks.map (Sum.inr (α := Int)))[j]? = some k := by rw [← hk, List.getElem?_map, h1]; rfl
  rw [List.getElem?_map] at h3
  cases h4 : ks[j]? with
  | none => rw [h4] at h3; cases h3
  | some y =>
    rw [h4] at h3
    cases h3
    obtain ⟨t, hv⟩ := Value.isStrOf_shape (x := y) (v := v) h2
    exact ⟨y, t, rfl, hv⟩
theorem call_sortedSN {X : Cx} (hc : X.calm = true) : CallR X (.builtin "sorted") rSortedSN := fun pins s σ H vs us Q I r h => by
  obtain ⟨a, kvs, ks, rfl, hd, h3, h4, h5⟩ := h
  obtain ⟨u, rfl, ru⟩ := vals1 r
  cases ru
  obtain ⟨_, lo, rs, rel, dd⟩ := dk_rd I.hok hd
  obtain ⟨ep, hat⟩ := dd.dictAt
  have kk : rs.map (·.1) = ks.map Sum.inr := rel.keys.symm.trans h3
  have ll : rs.length = ks.length := by simpa using congrArg List.length kk
  have z9 : (5000 : Nat) < sizeLine := by rw [sizeLine_eq]; omega
  refine Calls.call_function_entry kind_sorted plain_sorted entry_sorted (args_sorted1 _) ?_
  unfold Builtin.«sorted»
  refine wpAny_bind (m := checkCount "sorted" 1 1 _) (wpAny_pure (wpAny_bind (PySem.W.kdu_collect (A := X.A.in1) (PySem.W.kdl_dict (knd := mixKind X.prog X.w) (kvs := rs) (ep := ep) lo) (I.ok.hd hc) hat (by omega) fun h' tk acc kp ha => ?_)))
  have la : acc.toList.length = ks.length := by rw [Array.length_toList, ha.1, ll]
  have tx := txts_of_keys kk la ha.2
  have I' : Inv X pins σ H { s with heap := h', toks := tk } := I.kept kp
  refine wpAny_bind (wpAny_newList ?_ (by omega))
  have at1 : (h'.push (seqObj "list" acc.toList.toArray 0)).get? h'.objs.size = some (seqObj "list" acc.toList.toArray 0) := Heap.get?_push_size _ rfl
  refine wpAny_bind (wpAny_holding (wpAny_call_entry slot_list_sort (s := { s with heap := h'.push (seqObj "list" acc.toList.toArray 0), toks := tk }) ⟨_, at1, rfl⟩ entry_list_sort (list_sort_treeKAny strKind_oneLt (s := { s with heap := h'.push (seqObj "list" acc.toList.toArray 0), toks := tk }) at1 tx.keysOf (fun v₁ v₂ rest e => keyKind_strs (by rw [← e]; exact tx)) (by omega) fun st pm so => ⟨_, rfl, ?_⟩) (args_list_sort _)))
  obtain ⟨ys, g1, g2, g3⟩ := sorted_out_str tx pm so
  obtain ⟨e', at2⟩ := sortedHeap_at (vs := acc.toList) (out := (arrOf st).map (·.2)) at1
  have ly : (ys.map V.str).length ≤ sizeLine := by rw [List.length_map, g2.length_eq]; omega
  refine wpAny_pure ⟨_, rfl, .ref h'.objs.size, upd H h'.objs.size (.lst (ys.map V.str)), I'.laid (t' := tk) (fun b o hb => ?_) (Nat.le_refl _) (show ObjOk X.prog X.w _ _ _ (.lst (ys.map V.str)) from ⟨ly, ((arrOf st).map (·.2)).toList, e', vals_of_strs g1, by rw [Array.toArray_toList]; exact at2⟩), rfl, (h5 ys g2 g3).use _ (I'.hok.fresh (Nat.le_refl _))⟩
  have lb : b < h'.objs.size := Heap.lt_size hb
  rw [sortedHeap_old (Nat.ne_of_lt lb) (by rw [size_push']; exact Nat.lt_succ_of_lt lb)]
  exact Heap.get?_push_of_some _ hb
theorem pg_tupK (K : PySem.W.Frag) {X : Cx} {es : List Expr} {k : Nat} {t : TGs} {n : Nat} {pos : Pos} (hc : X.calm = true) (h : PGs X es t)
    (hn : (assignEach es X.env).length = n := by rfl) (hst : (assignEach es X.env).findIdx? (·.1) = none := by rfl) (hK : X.K = K := by rfl) : PG X (.Tuple es k pos) (gTup K n t) := by
  subst hK
  exact pg_tup hc h hn hst
end Vw
namespace Vw
open PySem PySem.Spec PyProof.Rows L2
local macro_rules | `(tactic| walk_at "rd") => `(tactic| simp only [tSeq, tNext, tIfS, tAsg, tRet, tRetN, tDrop, tVar, tC, tOp, tUn, tTest, tB, tAnd, tOr, tNot, tAndV, tOrV, tNotV, tIf, tChain, tCB, tCons, tNil, tCall, tMeth, tMake, tFld, sFld, tTup, tLst, tTupS, tLstS, tDNewKS, tDNewTS, tTold, tCmp, t2I, tIsN, tNotN, tPar, gName, gNil, gCons, gTup, gSub, rI0, rU, rEq, rNe, tDGet, tDIn, tDNotIn, sDPut, tDNewK, tDGet1, tDGet2, tDPop1, tDPop2, tBM, tBM0, tM0, tM1, tSl, tPart, tNoPart, tBreak, tCont, tThru, L2.start, List.map_cons, List.map_nil, List.length_cons, List.length_nil, List.cons_append, List.nil_append, List.append_nil, List.replicate_succ, List.replicate_zero, Nat.reduceAdd, Nat.reduceSub, Nat.zero_add, List.getElem?_cons_zero, List.getElem?_cons_succ, List.set_cons_zero, List.set_cons_succ, wipe, cxOf_K, tYes, List.cons.injEq, and_self, Option.some.injEq, V.int.injEq, V.bl.injEq, V.ref.injEq, V.str.injEq, exists_eq_left', exists_eq_left, exists_and_left, and_assoc, true_and, and_true, if_true, if_false, ite_true, ite_false, Bool.not_true, Bool.not_false, Bool.false_eq_true, reduceIte])
def measL : List Str := ["new", "old", "best", "warm", "torn", "sure"]
def measOk : PyData → Bool
  | .str z => decide (z ∈ measL)
  | _ => false
theorem inV_str (z : Str) (l : List Str) : inV (.str z) (l.map V.str) = decide (z ∈ l) := by
  unfold inV
  rw [List.any_map]
  by_cases h : z ∈ l
  · rw [decide_eq_true h]
    exact List.any_eq_true.mpr ⟨z, h, by simp [eqV]⟩
  · rw [decide_eq_false h, List.any_eq_false]
    intro x hx q
    have e : (x == z) = true := q
    rw [beq_iff_eq] at e
    exact h (e ▸ hx)
theorem New.mono {o : HO} {H H' : Hp} {Q : VK} (h : New o H Q) (s : Same H H') : New o H' Q := fun p H2 n s2 e => h p H2 (s.free n) (s.trans s2) e
theorem ups_lt (r : Row) : r.ups ≤ r.votes.length ∧ r.downs ≤ r.votes.length := by
  unfold Row.ups Row.downs
  have a := List.length_filter_le (fun p : Str × Int => decide (0 < p.2)) r.votes
  have b := List.length_filter_le (fun p : Str × Int => decide (p.2 < 0)) r.votes
  omega
section
variable {P : Program} {w : World} {K : PySem.W.Frag} {mg : Str → Option Value} {base : Heap}
def spMeasure (K : PySem.W.Frag) : Sp := fun vs H Q E => ∃ (x : V) (d : PyData), vs = [x] ∧ Dp K H x d ∧ (measOk d = true → Q .non H) ∧ (measOk d = false → Bad K E .number H)
abbrev N_need_measure : List Str := ["measure"]
theorem sc_need_measure : FnScope N_need_measure ["measure"] (defScope s_need_measure) := ⟨rfl, rfl, rfl, by decide +kernel, rfl, by decide +kernel, by decide +kernel⟩
theorem be_need_measure : BindEq "need_measure" "need_measure" s_need_measure ["measure"] := fun _ _ _ _ _ _ us hl => match us, hl with | [_], _ => rfl
theorem D_need_measure (T : Txt K mg base) : Def P w K mg base 1 (He.ga K "need_measure") ["measure"] (spMeasure K) := by
  refine mk_def T.f_need_measure sc_need_measure be_need_measure (fun vs H Q E h => ?_) (fun cdv A outer s H vs Q E hr h => ?_)
  · obtain ⟨x, d, rfl, _⟩ := h
    rfl
  · obtain ⟨x, d, rfl, hx, k1, k0⟩ := h
    refine ⟨_, (pss_one (ps_if (PW.pt (pw_or (pt_not (pt_val (pe_callB call_isi (by rfl) T.b_isinstance (by decide +kernel) (pa_cons (pv 0) (pa_cons (pe_bltn (v := .ty "str") (by rfl) T.b_str (by decide +kernel) rfl) pa_nil))))) (pw_or1 (pt_cmpR op_notIn_seq (pv 0) (pe_gk T.k_MEASURES) rfl)))) (pss_one (ps_rs T.x_BadNumber)) pss_nil)), ?_⟩
    walk_at "rd"
    have nb : ∀ (hx : Dp K H x d), isStrD d = false → measOk d = false := fun hx h => by
      cases d with
      | str z => cases h
      | _ => rfl
    refine use_isi hx (kit_str d) ⟨_, rfl, ?_⟩
    cases hd : isStrD d with
    | false => exact iteT (k0 (nb hx hd))
    | true =>
      cases hx with
      | str z =>
        refine iteF ⟨_, measL.map V.str, rfl, .inr (T.u_MEASURES H), rfl, by decide +kernel, _, rfl, ?_⟩
        rw [inV_str]
        by_cases c : z ∈ measL
        · rw [decide_eq_true c]
          exact iteF (k1 (decide_eq_true c))
        · rw [decide_eq_false c]
          exact iteT (k0 (decide_eq_false c))
      | _ => cases hd
def spWorth (K : PySem.W.Frag) : Sp := fun vs H Q _ => ∃ (L : Lay) (n : Int) (ms : Str) (r : Row), vs = [.ref L.p, .int n, .str ms] ∧ WoodAt K H L ∧ findR L.rows n = some r ∧ New (.tup [.int (worthM L.clock n r ms).1, .int (worthM L.clock n r ms).2]) H Q
abbrev N_worth : List Str := ["wood", "number", "measure", "one", "ups", "downs"]
theorem sc_worth : FnScope N_worth ["wood", "number", "measure"] (defScope s_worth) := ⟨rfl, rfl, rfl, by decide +kernel, rfl, by decide +kernel, by decide +kernel⟩
theorem be_worth : BindEq "worth" "worth" s_worth ["wood", "number", "measure"] := fun _ _ _ _ _ _ us hl => match us, hl with | [_, _, _], _ => rfl
theorem D_worth (T : Txt K mg base) : Def P w K mg base 2 (He.ga K "worth") ["wood", "number", "measure"] (spWorth K) := by
  refine mk_def T.f_worth sc_worth be_worth (fun vs H Q E h => ?_) (fun cdv A outer s H vs Q E hr h => ?_)
  · obtain ⟨L, n, ms, r, rfl, _⟩ := h
    rfl
  · obtain ⟨L, n, ms, r, rfl, W, hf, k⟩ := h
    refine ⟨_, (pss_cons (ps_set (i := 3) sc_worth.nd rfl (Or.inl rfl) (pe_dg (pe_fld (pv 0) (by rfl)) (pv 1) (by exact hu_of hr)))
      (pss_cons (ps_par (i := 4) (j := 5) (by rfl) sc_worth.nd rfl rfl (by decide) rfl rfl (pa_cons (pe_md0 (pv 3) T.c_Saying.c T.m_Saying_ups (D_Saying_ups T) (by exact hr.mono (by first | decide | omega)) passE) (pa_cons (pe_md0 (pv 3) T.c_Saying.c T.m_Saying_downs (D_Saying_downs T) (by exact hr.mono (by first | decide | omega)) passE) pa_nil)) (by rfl))
      (pss_cons (ps_if (pt_cmpR op_eq (pv 2) pe_str (nomark _)) (pss_one (ps_ret (pe_tupS (pa_cons (pv 1) (pa_cons pe_int pa_nil))))) pss_nil)
      (pss_cons (ps_if (pt_cmpR op_eq (pv 2) pe_str (nomark _)) (pss_one (ps_ret (pe_tupS (pa_cons (pe_op op_sub pe_int (pv 1)) (pa_cons pe_int pa_nil))))) pss_nil)
      (pss_cons (ps_if (pt_cmpR op_eq (pv 2) pe_str (nomark _)) (pss_one (ps_ret (pe_tupS (pa_cons (pe_op op_sub (pv 4) (pv 5)) (pa_cons pe_int pa_nil))))) pss_nil)
      (pss_cons (ps_if (pt_cmpR op_eq (pv 2) pe_str (nomark _)) (pss_one (ps_ret (pe_tupS (pa_cons (pe_op op_sub (pe_op op_mulX pe_int (pe_op op_sub (pv 4) (pv 5))) (pe_op op_sub (pe_fld (pv 0) (by rfl)) (pe_fld (pv 3) (by rfl)))) (pa_cons pe_int pa_nil))))) pss_nil)
      (pss_cons (ps_if (pt_cmpR op_eq (pv 2) pe_str (nomark _)) (pss_one (ps_ret (pe_tupS (pa_cons (pe_callB (call_min2 rfl) (by rfl) T.b_min (by decide +kernel) (pa_cons (pv 4) (pa_cons (pv 5) pa_nil))) (pa_cons pe_int pa_nil))))) pss_nil)
      (pss_one (ps_ret (pe_tupS (pa_cons (pe_op op_add (pv 4) pe_int) (pa_cons (pe_op op_add (pe_op op_add (pv 4) (pv 5)) pe_int) pa_nil)))))))))))), ?_⟩
    walk_at "rd"
    have z9 : (1000 : Nat) ≤ sizeLine := by rw [sizeLine_eq]; omega
    obtain ⟨e, he, rfl⟩ : ∃ e, findE L.ents n = some e ∧ e.row = r := by
      rw [L.find] at hf
      cases q : findE L.ents n with
      | none => rw [q] at hf; cases hf
      | some e => rw [q] at hf; exact ⟨e, rfl, Option.some.inj hf⟩
    have S := W.say e (findE_mem he).1
    refine W.fsay T (W.at he ⟨_, rfl, _, _, S.o, fs_ups _ _, _, _, _, _, rfl, S, fun H1 s1 => ⟨_, rfl, _, _, (S.same s1).o, fs_downs _ _, _, _, _, _, rfl, S.same s1, fun H2 s2 => ⟨rfl, ?_⟩⟩⟩)
    have S2 := S.same (s1.trans s2)
    have W2 := W.same (s1.trans s2)
    have k := k.mono (s1.trans s2)
    have sz := S.sz
    have ul := ups_lt e.row
    have u0 := e.row.ups0
    unfold worthM at k
    by_cases c1 : ms = "new"
    · rw [if_pos c1] at k
      rw [decide_eq_true c1]
      exact iteT ⟨by omega, k⟩
    rw [if_neg c1] at k
    rw [decide_eq_false c1]
    refine iteF ⟨rfl, ?_⟩
    by_cases c2 : ms = "old"
    · rw [if_pos c2] at k
      rw [decide_eq_true c2]
      exact iteT ⟨by omega, k⟩
    rw [if_neg c2] at k
    rw [decide_eq_false c2]
    refine iteF ⟨rfl, ?_⟩
    by_cases c3 : ms = "best"
    · rw [if_pos c3] at k
      rw [decide_eq_true c3]
      exact iteT ⟨_, rfl, _, rfl, by omega, k⟩
    rw [if_neg c3] at k
    rw [decide_eq_false c3]
    refine iteF ⟨rfl, ?_⟩
    by_cases c4 : ms = "warm"
    · rw [if_pos c4] at k
      rw [decide_eq_true c4]
      refine iteT ⟨_, rfl, _, rfl, useI (mulx (a := 5) (b := 20) (by decide) (by omega) (by decide)) ?_⟩
      exact W2.fclock T ⟨_, rfl, S2.ftime T ⟨_, rfl, _, rfl, _, rfl, by omega, k⟩⟩
    rw [if_neg c4] at k
    rw [decide_eq_false c4]
    refine iteF ⟨rfl, ?_⟩
    by_cases c5 : ms = "torn"
    · rw [if_pos c5] at k
      rw [decide_eq_true c5]
      refine iteT ⟨_, rfl, _, rfl, by omega, ?_⟩
      have em : (if e.row.downs < e.row.ups then e.row.downs else e.row.ups) = min e.row.ups e.row.downs := by
        split <;> omega
      rw [em]
      exact k
    rw [if_neg c5] at k
    rw [decide_eq_false c5]
    exact iteF ⟨_, rfl, _, rfl, _, rfl, by omega, k⟩
structure Bnd (M : Wd) : Prop where
  r : ∀ p ∈ M.rows, p.1.natAbs < 2 ^ 60 ∧ p.2.time.natAbs < 2 ^ 60 ∧ p.2.votes.length < 2 ^ 60
  k : M.clock.natAbs < 2 ^ 60
theorem Bnd.worth {M : Wd} (b : Bnd M) (ms : Str) (n : Int) : (worthN M ms n).1.natAbs < 2 ^ 100 ∧ (worthN M ms n).2.natAbs < 2 ^ 100 := by
  unfold worthN
  split
  · rename_i r h
    obtain ⟨h1, h2, h3⟩ := b.r _ (findR_mem h)
    have h1 : n.natAbs < 2 ^ 60 := h1
    have h2 : r.time.natAbs < 2 ^ 60 := h2
    have h3 : r.votes.length < 2 ^ 60 := h3
    have k := b.k
    have u := ups_lt r
    have u0 := r.ups0
    unfold worthM
    repeat' split
    all_goals dsimp only
    all_goals omega
  · exact ⟨by decide, by decide⟩
def PrAt (H : Hp) (q : Addr) (M : Wd) (ms : Str) (n : Int) : Prop := ∃ w, H q = some (.tup [.ref w, .int n]) ∧ H w = some (.tup [.int (worthN M ms n).1, .int (worthN M ms n).2])
theorem PrAt.same {H H' : Hp} {q : Addr} {M : Wd} {ms : Str} {n : Int} (p : PrAt H q M ms n) (s : Same H H') : PrAt H' q M ms n := by
  obtain ⟨w, h1, h2⟩ := p
  exact ⟨w, s _ _ h1, s _ _ h2⟩
def spAhead : Sp := fun vs H Q _ => ∃ (q1 q2 : Addr) (M : Wd) (ms : Str) (n m : Int), vs = [.ref q1, .ref q2] ∧ PrAt H q1 M ms n ∧ PrAt H q2 M ms m ∧ Bnd M ∧ Q (.bl (aheadN M ms n m)) H
abbrev N_is_ahead : List Str := ["one", "other", "first", "second"]
theorem sc_is_ahead : FnScope N_is_ahead ["one", "other"] (defScope s_is_ahead) := ⟨rfl, rfl, rfl, by decide +kernel, rfl, by decide +kernel, by decide +kernel⟩
theorem be_is_ahead : BindEq "is_ahead" "is_ahead" s_is_ahead ["one", "other"] := fun _ _ _ _ _ _ us hl => match us, hl with | [_, _], _ => rfl
theorem D_is_ahead (T : Txt K mg base) : Def P w K mg base 1 (He.ga K "is_ahead") ["one", "other"] spAhead := by
  refine mk_def T.f_is_ahead sc_is_ahead be_is_ahead (fun vs H Q E h => ?_) (fun cdv A outer s H vs Q E hr h => ?_)
  · obtain ⟨q1, q2, M, ms, n, m, rfl, _⟩ := h
    rfl
  · obtain ⟨q1, q2, M, ms, n, m, rfl, ⟨w1, a1, a2⟩, ⟨w2, b1, b2⟩, bd, k⟩ := h
    refine ⟨_, (pss_cons (ps_par (i := 2) (j := 3) (by rfl) sc_is_ahead.nd rfl rfl (by decide) rfl rfl (pa_cons (pe_op op_mulX (pe_ix ix_tup (pe_ix ix_tup (pv 0) pe_int (fun _ _ => rfl)) pe_int (fun _ _ => rfl)) (pe_ix ix_tup (pe_ix ix_tup (pv 1) pe_int (fun _ _ => rfl)) pe_int (fun _ _ => rfl))) (pa_cons (pe_op op_mulX (pe_ix ix_tup (pe_ix ix_tup (pv 1) pe_int (fun _ _ => rfl)) pe_int (fun _ _ => rfl)) (pe_ix ix_tup (pe_ix ix_tup (pv 0) pe_int (fun _ _ => rfl)) pe_int (fun _ _ => rfl))) pa_nil)) (by rfl))
      (pss_cons (ps_if (pt_cmpR op_ne (pv 2) (pv 3) (nomark _)) (pss_one (ps_ret (pe_cmpR op_gt (pv 2) (pv 3) (nomark _)))) pss_nil)
      (pss_one (ps_ret (pe_cmpR op_lt (pe_ix ix_tup (pv 0) pe_int (fun _ _ => rfl)) (pe_ix ix_tup (pv 1) pe_int (fun _ _ => rfl)) (nomark _)))))), ?_⟩
    walk_at "rd"
    have x1 := bd.worth ms n
    have x2 := bd.worth ms m
    unfold aheadN at k
    generalize worthN M ms n = wn at *
    generalize worthN M ms m = wm at *
    refine ⟨q1, _, 0, .ref w1, rfl, rfl, .inl (.inl a1), rfl, w1, _, 0, .int wn.1, rfl, rfl, .inl (.inl a2), rfl, q2, _, 0, .ref w2, rfl, rfl, .inl (.inl b1), rfl, w2, _, 1, .int wm.2, rfl, rfl, .inl (.inl b2), rfl, useI (mulx x1.1 x2.2 (by decide)) ?_⟩
    refine ⟨q2, _, 0, .ref w2, rfl, rfl, .inl (.inl b1), rfl, w2, _, 0, .int wm.1, rfl, rfl, .inl (.inl b2), rfl, q1, _, 0, .ref w1, rfl, rfl, .inl (.inl a1), rfl, w1, _, 1, .int wn.2, rfl, rfl, .inl (.inl a2), rfl, useI (mulx x2.1 x1.2 (by decide)) ?_⟩
    unfold aheadW at k
    refine ⟨rfl, ?_⟩
    by_cases c : wn.1 * wm.2 = wm.1 * wn.2
    · rw [if_neg (fun z => z c)] at k
      rw [decide_eq_true (show V.int (wn.1 * wm.2) = V.int (wm.1 * wn.2) by rw [c])]
      refine iteF ⟨q1, _, 1, .int n, rfl, rfl, .inl (.inl a1), rfl, q2, _, 1, .int m, rfl, rfl, .inl (.inl b1), rfl, ?_⟩
      first | exact ⟨_, rfl, _, rfl, k⟩ | exact k
    · rw [if_pos c] at k
      rw [decide_eq_false (show ¬ V.int (wn.1 * wm.2) = V.int (wm.1 * wn.2) from fun z => c (V.int.inj z))]
      first | exact iteT ⟨_, rfl, _, rfl, k⟩ | exact iteT k
theorem sql_upd {K : PySem.W.Frag} {H : Hp} {q fl : Addr} {xs zs : List V} {o : HO} (h : SqL K H q xs) (hf : H fl = some (.lst zs)) (ne : xs ≠ zs) : SqL K (upd H fl o) q xs := by
  rcases h with (h | ⟨u, h⟩) | h
  · refine .inl (.inl ?_)
    rw [upd_ne (fun z => ne (by rw [z, hf] at h; cases h; rfl))]
    exact h
  · refine .inl (.inr ⟨u, ?_⟩)
    rw [upd_ne (fun z => by rw [z, hf] at h; cases h)]
    exact h
  · exact .inr h
theorem PrAt.upd {H : Hp} {q fl : Addr} {M : Wd} {ms : Str} {n : Int} {zs : List V} {o : HO} (p : PrAt H q M ms n) (hf : H fl = some (.lst zs)) : PrAt (upd H fl o) q M ms n := by
  obtain ⟨w, h1, h2⟩ := p
  refine ⟨w, ?_, ?_⟩
  · rw [upd_ne (fun z => by rw [z, hf] at h1; cases h1)]
    exact h1
  · rw [upd_ne (fun z => by rw [z, hf] at h2; cases h2)]
    exact h2
def spInOrder (K : PySem.W.Frag) : Sp := fun vs H Q _ => ∃ (L : Lay) (p : Addr) (ns : List Int) (ms : Str), vs = [.ref L.p, .ref p, .str ms] ∧ WoodAt K H L ∧ SqL K H p (ns.map V.int) ∧ ns.length < 64 ∧ ns.Nodup ∧ (∀ n ∈ ns, ∃ r, findR L.rows n = some r) ∧ Bnd L.wd ∧ ∀ ys, IsOrd L.wd ms ns ys → New (.lst (ys.map V.int)) H Q
abbrev N_in_order : List Str := ["wood", "numbers", "measure", "found", "number", "pair", "at", "own"]
theorem sc_in_order : FnScope N_in_order ["wood", "numbers", "measure"] (defScope s_in_order) := ⟨rfl, rfl, rfl, by decide +kernel, rfl, by decide +kernel, by decide +kernel⟩
theorem be_in_order : BindEq "in_order" "in_order" s_in_order ["wood", "numbers", "measure"] := fun _ _ _ _ _ _ us hl => match us, hl with | [_, _, _], _ => rfl
theorem D_in_order (T : Txt K mg base) : Def P w K mg base 3 (He.ga K "in_order") ["wood", "numbers", "measure"] (spInOrder K) := by
  refine mk_def T.f_in_order sc_in_order be_in_order (fun vs H Q E h => ?_) (fun cdv A outer s H vs Q E hr h => ?_)
  · obtain ⟨L, p, ns, ms, rfl, _⟩ := h
    rfl
  · obtain ⟨L, p, ns, ms, rfl, W, hp, l64, nd, hf, bd, k⟩ := h
    refine ⟨_, (pss_cons (ps_set (i := 3) sc_in_order.nd rfl (Or.inl rfl) (pe_lstS pa_nil))
      (pss_cons (ps_for ownE rfl (pi_list (pv 1)) (pg_name (i := 4) sc_in_order.nd rfl (Or.inl rfl))
      (pss_cons (ps_set (i := 5) sc_in_order.nd rfl (Or.inl rfl) (pe_tupS (pa_cons (pe_cd (D_worth T) (by exact hr.mono (by first | decide | omega)) T.g_worth passE (pa_cons (pv 0) (pa_cons (pv 4) (pa_cons (pv 2) pa_nil)))) (pa_cons (pv 4) pa_nil))))
      (pss_cons (ps_set (i := 6) sc_in_order.nd rfl (Or.inl rfl) pe_int)
      (pss_cons (ps_while ownE (PW.pt (pw_and (pt_cmpR op_lt (pv 6) (pe_callB call_len_seq (by rfl) T.b_len (by decide +kernel) (pa_cons (pv 3) pa_nil)) (nomark _)) (pw_and1 (pt_val (pe_cd (D_is_ahead T) (by exact hr.mono (by first | decide | omega)) T.g_is_ahead passE (pa_cons (pe_ix ix_list (pv 3) (pv 6) (fun _ _ => rfl)) (pa_cons (pv 5) pa_nil))))))) (pss_one (ps_set (i := 6) sc_in_order.nd rfl (Or.inl rfl) (pe_op op_add (pv 6) pe_int))))
      (pss_one (ps_expr (pe_bm PySem.F.plainAttrs_list PySem.F.slot_list_insert PySem.F.type_list_insert mt_insert (pv 3) (pa_cons (pv 6) (pa_cons (pv 5) pa_nil)))))))))
      (pss_one (ps_ret (pe_lc (own := [("own", 7), ("number", 4)]) (g := gTup K 2 (gCons (gName 7) (gCons (gName 4) gNil))) rfl sc_in_order.nd (pi_list (pv 3)) (blkOk_by (N := N_in_order) (sc := defScope s_in_order) (by decide +kernel)) (fun _ _ _ _ _ => by exact (pg_tupK K (by rfl) (pgs_cons (pg_name (i := 7) sc_in_order.nd rfl (Or.inl rfl)) (pgs_cons (pg_name (i := 4) sc_in_order.nd rfl (Or.inl rfl)) pgs_nil)))) (fun _ _ _ _ _ => pts_nil) (fun _ _ _ _ _ => by exact (pv 4))))))), ?_⟩
    walk_at "rd"
    have z9 : (1000 : Nat) < sizeLine := by rw [sizeLine_eq]; omega
    refine ⟨Nat.zero_le _, fun fl H1 n1 s1 e1 => ?_⟩
    refine forL2 (l := ns) V.int (fun R h => ⟨_, rfl, h p H1 (Same.refl _) (s1.seq hp)⟩) (fun q i σ' H' => SqL K H' q (ns.map V.int) ∧ Same H H' ∧ (∃ x4 x5 x6 x7, σ' = [some (.ref L.p), some (.ref p), some (.str ms), some (.ref fl), x4, x5, x6, x7]) ∧ ∃ (ys : List Int) (f : Int → Addr), IsOrd L.wd ms (ns.take i) ys ∧ H' fl = some (.lst (ys.map fun n => V.ref (f n))) ∧ ∀ n ∈ ys, PrAt H' (f n) L.wd ms n)
      (fun q H2 s2 h2 => ⟨h2, s1.trans s2, ⟨_, _, _, _, rfl⟩, [], fun _ => fl, ord_nil, s2 _ _ e1, fun n hn => nomatch hn⟩) (fun q i σ' H' _ h => h.1) (fun q i n σ' H2 D' hi h2 nx ct rt _ => ?_) (fun q σ' H2 h2 => ?_)
    · obtain ⟨hq, s2, ⟨x4, x5, x6, x7, rfl⟩, ys, f, od, efl, pr⟩ := h2
      walk_at "rd"
      obtain ⟨r, hr1⟩ := hf n (List.mem_of_getElem? hi)
      have il : i < ns.length := (List.getElem?_eq_some_iff.mp hi).1
      have yl : ys.length = i := by
        rw [od.perm.length_eq, List.length_take]
        omega
      have ew : worthN L.wd ms n = worthM L.clock n r ms := by
        unfold worthN
        show (match findR L.rows n with | some r => worthM L.clock n r ms | none => (0, 1)) = _
        rw [hr1]
      refine ⟨L, n, ms, r, rfl, W.same s2, hr1, fun w3 H3 n3 s3 e3 => ⟨by omega, fun q4 H4 n4 s4 e4 => ?_⟩⟩
      have pn : PrAt H4 q4 L.wd ms n := ⟨w3, e4, by rw [ew]; exact s4 _ _ e3⟩
      have s24 := s3.trans s4
      have ef4 := s24 _ _ efl
      have pr4 : ∀ n ∈ ys, PrAt H4 (f n) L.wd ms n := fun m hm => (pr m hm).same s24
      refine ⟨fun m σ H' => H' = H4 ∧ ∃ k : Nat, σ = [some (.ref L.p), some (.ref p), some (.str ms), some (.ref fl), some (.int n), some (.ref q4), some (.int k), x7] ∧ m = ys.length - k ∧ k ≤ ys.length ∧ ∀ x ∈ ys.take k, aheadN L.wd ms x n = true, ⟨_, rfl, 0, rfl, rfl, Nat.zero_le _, by simp⟩, ?_⟩
      rintro m σ H' ⟨rfl, k, rfl, rfl, kl, hk⟩
      walk_at "rd"
      have fin : (∀ x, ys[k]? = some x → aheadN L.wd ms x n = false) → D'.nx [some (.ref L.p), some (.ref p), some (.str ms), some (.ref fl), some (.int n), some (.ref q4), some (.int k), x7] (L2.upd H' fl (.lst ((ys.map fun n => V.ref (f n)).take (k : Int).toNat ++ [V.ref q4] ++ (ys.map fun n => V.ref (f n)).drop (k : Int).toNat))) := fun hno => by
        have nny : n ∉ ns.take i := fun z => by
          obtain ⟨j, hj1, hj2⟩ := List.getElem_of_mem z
          rw [List.length_take] at hj1
          rw [List.getElem_take] at hj2
          have e1 : ns[j]? = some n := by rw [List.getElem?_eq_getElem (by omega), hj2]
          have := (List.getElem?_inj (by omega) nd).mp (e1.trans hi.symm)
          omega
        have ny : n ∉ ys := fun z => nny (od.perm.mem_iff.mp z)
        have od2 := od.ins (n := n) (k := k) nny hk hno
        have ne1 : ns.map V.int ≠ ys.map fun n => V.ref (f n) := fun z => by
          have h0 : ns ≠ [] := fun z => by rw [z] at il; exact absurd il (Nat.not_lt_zero _)
          cases ns with
          | nil => exact h0 rfl
          | cons a r =>
            cases ys with
            | nil => cases z
            | cons b u => simp at z
        have take1 : ns.take i ++ [n] = ns.take (i + 1) := by rw [List.take_add_one, hi]; rfl
        rw [take1] at od2
        refine nx _ _ ⟨sql_upd (s24.seq hq) ef4 ne1, ((s2.trans s24).over (n1)), ⟨_, _, _, _, rfl⟩, _, fun m => if m = n then q4 else f m, od2, ?_, fun m hm => ?_⟩
        · rw [upd_same, Int.toNat_natCast]
          have fm : ∀ l : List Int, (∀ x ∈ l, x ∈ ys) → l.map (fun m => V.ref (if m = n then q4 else f m)) = l.map fun m => V.ref (f m) := fun l hl => List.map_congr_left fun x hx => by
            have hxn : x ≠ n := fun z => ny (z ▸ hl x hx)
            rw [if_neg hxn]
          rw [List.map_append, List.map_append, fm _ fun x hx => List.mem_of_mem_take hx, fm _ fun x hx => List.mem_of_mem_drop hx, List.map_take, List.map_drop]
          simp
        · have hm : m ∈ ys.take k ++ [n] ++ ys.drop k := hm
          show PrAt _ (if m = n then q4 else f m) L.wd ms m
          rcases List.mem_append.mp hm with hm | hm
          · rcases List.mem_append.mp hm with hm | hm
            · have my := List.mem_of_mem_take hm
              have mn : m ≠ n := fun z => ny (z ▸ my)
              rw [if_neg mn]
              exact (pr4 m my).upd ef4
            · rw [List.mem_singleton.mp hm, if_pos rfl]
              exact pn.upd ef4
          · have my := List.mem_of_mem_drop hm
            have mn : m ≠ n := fun z => ny (z ▸ my)
            rw [if_neg mn]
            exact (pr4 m my).upd ef4
      refine ⟨_, .inl (SqL.of ef4), ?_⟩
      rw [List.length_map]
      have fin2 : (∀ x, ys[k]? = some x → aheadN L.wd ms x n = false) → _ := fun hno => (⟨.inl ⟨rfl, _, SqL.of ef4⟩, _, ef4, by rw [List.length_map]; omega, by omega, by omega, fin hno⟩ : tyV K "list" (V.ref fl) H' ∧ ∃ x, H' fl = some (HO.lst x) ∧ x.length < sizeLine ∧ 0 ≤ (k : Int) ∧ (k : Int) < 2 ^ 63 ∧ D'.nx [some (.ref L.p), some (.ref p), some (.str ms), some (.ref fl), some (.int n), some (.ref q4), some (.int k), x7] (L2.upd H' fl (.lst (x.take (k : Int).toNat ++ [V.ref q4] ++ x.drop (k : Int).toNat))))
      by_cases c : k < ys.length
      · rw [decide_eq_true (show (k : Int) < (ys.length : Int) by omega)]
        have gk : ys[k]? = some ys[k] := List.getElem?_eq_getElem c
        refine iteT ⟨fl, _, _, .ref (f ys[k]), rfl, rfl, SqL.of ef4, ?_, f ys[k], q4, L.wd, ms, ys[k], n, rfl, pr4 _ (List.getElem_mem c), pn, bd, _, rfl, ?_⟩
        · rw [atI_nn (by omega) (by rw [List.length_map]; omega), Int.toNat_natCast, List.getElem?_map, gk]
          rfl
        · cases ha : aheadN L.wd ms ys[k] n with
          | true =>
            refine iteT ⟨_, fun _ _ h => h, ys.length - (k + 1), by omega, rfl, k + 1, by simp, rfl, by omega, fun x hx => ?_⟩
            rw [List.take_add_one, gk] at hx
            rcases List.mem_append.mp hx with hx | hx
            · exact hk x hx
            · have : x = ys[k] := by simpa using hx
              rw [this]
              exact ha
          | false =>
            refine iteF (fin2 fun x hx => ?_)
            rw [gk] at hx
            cases hx
            exact ha
      · rw [decide_eq_false (show ¬ (k : Int) < (ys.length : Int) by omega)]
        refine iteF (fin2 fun x hx => ?_)
        rw [List.getElem?_eq_none (by omega)] at hx
        cases hx
    · obtain ⟨hq, s2, ⟨x4, x5, x6, x7, rfl⟩, ys, f, od, efl, pr⟩ := h2
      rw [List.take_length] at od
      walk_at "rd"
      refine lcL (l := ys) (fun n => V.ref (f n)) (fun n => some (.int n)) (fun R h => ⟨_, rfl, h fl H2 (Same.refl _) (SqL.of efl)⟩) (by rw [od.perm.length_eq]; omega) (fun n H3 hn s3 N1 N0 h1 h0 => ?_) (fun D H3 nD s3 eD => ?_)
      · obtain ⟨w1, p1, p2⟩ := (pr n hn).same s3
        walk_at "rd"
        exact ⟨_, .inl (.inl p1), rfl, _, _, rfl, _, _, rfl, rfl, h1 _ _ (Same.refl _) rfl⟩
      · rw [List.filterMap_eq_map'] at eD
        exact k ys od D H3 (s2.free nD) (s2.trans s3) eD
def spOrdered (K : PySem.W.Frag) : Sp := fun vs H Q E => ∃ (L : Lay) (x y : V) (d b : PyData), vs = [.ref L.p, x, y] ∧ WoodAt K H L ∧ Good L.wd ∧ Bnd L.wd ∧ Dp K H x d ∧ SeqAt.shaped d = true ∧ Dp K H y b ∧
  (underOk L.wd d = false → Bad K E .no H) ∧ (underOk L.wd d = true → measOk b = false → Bad K E .number H) ∧
  (∀ n z, d = .int n → b = .str z → underOk L.wd d = true → measOk b = true → ∀ ys, IsOrd L.wd z (sortI (repliesR L.rows n)) ys → New (.lst (ys.map V.int)) H Q)
abbrev N_ordered : List Str := ["wood", "number", "measure"]
theorem sc_ordered : FnScope N_ordered ["wood", "number", "measure"] (defScope s_ordered) := ⟨rfl, rfl, rfl, by decide +kernel, rfl, by decide +kernel, by decide +kernel⟩
theorem be_ordered : BindEq "ordered" "ordered" s_ordered ["wood", "number", "measure"] := fun _ _ _ _ _ _ us hl => match us, hl with | [_, _, _], _ => rfl
theorem D_ordered (T : Txt K mg base) : Def P w K mg base 4 (He.ga K "ordered") ["wood", "number", "measure"] (spOrdered K) := by
  refine mk_def T.f_ordered sc_ordered be_ordered (fun vs H Q E h => ?_) (fun cdv A outer s H vs Q E hr h => ?_)
  · obtain ⟨L, x, y, d, b, rfl, _⟩ := h
    rfl
  · obtain ⟨L, x, y, d, b, rfl, W, G, bd, hx, hsh, hy, k0, k2, k1⟩ := h
    refine ⟨_, (C8.pss_cut (ps_if (PW.pt (pw_or (pt_ned (pv 1) pe_int (by exact hr.units)) (pw_or1 (pt_val (pe_callB call_isi (by rfl) T.b_isinstance (by decide +kernel) (pa_cons (pv 1) (pa_cons (pe_bltn (v := .ty "bool") (by rfl) T.b_bool (by decide +kernel) rfl) pa_nil))))))) (pss_one (ps_expr (pe_md (pv 0) T.c_Wood.c T.m_Wood_saying (D_Wood_saying T) (by exact hr.mono (by first | decide | omega)) passE (pa_cons (pv 1) pa_nil)))) pss_nil)
      (pss_cons (ps_expr (pe_cd (D_need_measure T) (by exact hr.mono (by first | decide | omega)) T.g_need_measure passE (pa_cons (pv 2) pa_nil)))
      (pss_one (ps_ret (pe_cd (D_in_order T) (by exact hr.mono (by first | decide | omega)) T.g_in_order passE (pa_cons (pv 0) (pa_cons (pe_md (pv 0) T.c_Wood.c T.m_Wood_replies (D_Wood_replies T) (by exact hr.mono (by first | decide | omega)) passE (pa_cons (pv 1) pa_nil)) (pa_cons (pv 2) pa_nil)))))))), ?_⟩
    refine ⟨fun σ' H' => H' = H ∧ σ' = [some (.ref L.p), some x, some y] ∧ underOk L.wd d = true, ?_, ?_⟩
    · walk_at "rd"
      have say : ∀ {Q' : VK}, (underOk L.wd d = true → Q' .non H) → isZero d = false → (∃ dx fs, H L.p = some (.ins (He.ga K "Wood") dx fs) ∧ fs.lookup (Str.ofString "saying") = none ∧ spSaying K [.ref L.p, x] H (fun _ H1 => Q' .non H1) E) := fun {Q'} q z => by
        refine ⟨_, _, W.top, fw_no _ _ _ (by decide) (by decide) (by decide), L, x, d, rfl, W, hx, fun e he => q ?_, fun h => k0 ?_⟩
        · exact (underOk_iff L z).mpr ⟨e, he⟩
        · cases c : underOk L.wd d with
          | false => rfl
          | true =>
            obtain ⟨e, he⟩ := (underOk_iff L z).mp c
            rw [he] at h
            cases h
      refine use_neD hx (.int 0) hsh rfl ⟨_, rfl, ?_⟩
      cases e0 : PyData.eqv d (.int 0) with
      | false =>
        refine iteT (say (Q' := fun _ H1 => H1 = H ∧ underOk L.wd d = true) (fun h => ⟨rfl, h⟩) ?_)
        cases d with
        | int n => 
          have : ¬ n = 0 := by rw [eqv_int] at e0; exact of_decide_eq_false e0
          simp [isZero, this]
        | _ => rfl
      | true =>
        refine iteF (use_isi hx (kit_bool _) ⟨_, rfl, ?_⟩)
        cases hx with
        | bl b => exact iteT (say (Q' := fun _ H1 => H1 = H ∧ underOk L.wd (.bool b) = true) (fun h => ⟨rfl, h⟩) rfl)
        | int n =>
          have : n = 0 := by rw [eqv_int] at e0; exact of_decide_eq_true e0
          subst this
          exact iteF ⟨rfl, rfl⟩
        | _ => cases e0
    · rintro σ' H' ⟨rfl, rfl, hu⟩
      obtain ⟨n, rfl⟩ : ∃ n, d = .int n := by
        cases d with
        | int n => exact ⟨n, rfl⟩
        | _ => cases hu
      cases hx
      walk_at "rd"
      refine ⟨y, b, rfl, hy, fun hm => ?_, fun hm => k2 hu hm⟩
      obtain ⟨z, rfl⟩ : ∃ z, b = .str z := by
        cases b with
        | str z => exact ⟨z, rfl⟩
        | _ => cases hm
      cases hy
      refine ⟨_, _, W.top, fw_no _ _ _ (by decide) (by decide) (by decide), use_replies W G fun p1 H1 n1 s1 e1 => ?_⟩
      have F : Wf L.rows := G.wf
      have ln : L.rows.length ≤ 60 := G.len
      have lr : (repliesR L.rows n).length ≤ 60 := by
        unfold repliesR
        rw [List.length_map]
        exact Nat.le_trans (List.length_filter_le _ _) ln
      refine ⟨L, p1, sortI (repliesR L.rows n), z, rfl, W.same s1, SqL.of e1, by rw [sortI_length]; omega, ((sortI_perm _).nodup_iff).mpr (nodup_replies F.nk n), fun m hm => ?_, bd, fun ys hy => (k1 n z rfl rfl hu hm ys hy).mono s1⟩
      obtain ⟨r, h1, _⟩ := mem_replies.mp ((sortI_perm _).mem_iff.mp hm)
      exact ⟨r, findR_of F.nk h1⟩
end
end Vw
namespace Vw
open PySem PySem.Spec PyProof.Rows L2
section
variable {X : Cx}
/-- dict(pairs), dict(d): all but the new dict forgotten -/
def rDictP (K : PySem.W.Frag) : List V → Hp → VK → Prop := fun xs H Q => ∃ (a : Addr) (ps : List Addr) (kvs : List (Key × V)), xs = [.ref a] ∧ SqL K H a (ps.map V.ref) ∧ Paired (fun p kv => SqT K H p [kV kv.1, kv.2]) ps kvs ∧ New (.dK (mergeK [] kvs)) H Q
theorem call_dictPN (hc : X.calm = true) : CallR X (.type "dict") (rDictP X.K) := fun pins s σ H vs us Q I r h => by
  obtain ⟨a, ps, kvs, h1, h2, h3, h4⟩ := h
  exact call_dictP hc pins s σ H vs us Q I r ⟨a, ps, kvs, h1, h2, h3, h4.use⟩
def rDictD : List V → Hp → VK → Prop := fun xs H Q => ∃ (a : Addr) (kvs : List (Key × V)), xs = [.ref a] ∧ Rd H a (.dK kvs) ∧ New (.dK kvs) H Q
theorem call_dictDN : CallR X (.type "dict") rDictD := fun pins s σ H vs us Q I r h => by
  obtain ⟨a, kvs, h1, h2, h3⟩ := h
  exact call_dictD pins s σ H vs us Q I r ⟨a, kvs, h1, h2, h3.use⟩
theorem call_isiK (K : PySem.W.Frag) (hK : X.K = K := by rfl) : CallR X (.builtin "isinstance") (rIsi K) := by
  subst hK
  exact call_isi
end
theorem mergeK_app : ∀ (l acc : List (Key × V)), ((acc ++ l).map (·.1)).Nodup → mergeK acc l = acc ++ l
  | [], acc, _ => by simp [mergeK]
  | p :: r, acc, h => by
    have e : putK acc p.1 p.2 = acc ++ [p] := by
      unfold putK
      rw [if_neg]
      intro z
      obtain ⟨q, hq, e⟩ := List.any_eq_true.mp z
      have e := of_decide_eq_true e
      rw [List.map_append] at h
      have := (List.nodup_append.mp h).2.2 q.1 (List.mem_map.mpr ⟨q, hq, rfl⟩) p.1 (by simp)
      exact this e
    show mergeK (putK acc p.1 p.2) r = _
    rw [e, mergeK_app r (acc ++ [p]) (by rw [List.append_assoc]; exact h), List.append_assoc]
    rfl
theorem mergeK_nil {l : List (Key × V)} (h : (l.map (·.1)).Nodup) : mergeK [] l = l := by
  rw [mergeK_app l [] h]
  rfl
end Vw
namespace Vw
open PySem PySem.Spec PyProof.Rows L2
/-! ### comprehensions whose elements are new tuples -/
/-- tuples stand at these places -/
abbrev TupsAt (H : Hp) (qs : List Addr) (vss : List (List V)) : Prop := Paired (fun q vs => H q = some (.tup vs)) qs vss
theorem Paired.imp {α β : Type} {F G : α → β → Prop} (h : ∀ a b, F a b → G a b) : ∀ {l : List α} {m : List β}, Paired F l m → Paired G l m
  | _, _, .nil => .nil
  | _, _, .cons a t => .cons (h _ _ a) (Paired.imp h t)
theorem Paired.app {α β : Type} {F : α → β → Prop} : ∀ {l l' : List α} {m m' : List β}, Paired F l m → Paired F l' m' → Paired F (l ++ l') (m ++ m')
  | _, _, _, _, .nil, h => h
  | _, _, _, _, .cons a t, h => .cons a (Paired.app t h)
theorem TupsAt.keep {H H' : Hp} {qs : List Addr} {vss : List (List V)} (h : TupsAt H qs vss) (k : ∀ b xs, H b = some (.tup xs) → H' b = some (.tup xs)) : TupsAt H' qs vss := Paired.imp (fun q vs e => k q vs e) h
theorem TupsAt.same {H H' : Hp} {qs : List Addr} {vss : List (List V)} (h : TupsAt H qs vss) (s : Same H H') : TupsAt H' qs vss := h.keep fun b xs e => s _ _ e
theorem TupsAt.upd {H : Hp} {D : Addr} {acc : List V} {o : HO} {qs : List Addr} {vss : List (List V)} (h : TupsAt H qs vss) (e : H D = some (.lst acc)) : TupsAt (L2.upd H D o) qs vss := h.keep fun b xs q => by
  rw [upd_ne (fun z => by rw [z, e] at q; cases q)]
  exact q
theorem lc_roT {α : Type} {J : It} {G : Hp → Prop} {Y : Nat → Hp → V → Hp → Prop} (l : List α) (w : Walk J l.length G Y) (f : α → Option (List V)) {g : TG} {tt : TT} {te : TE} {vs : List Nat} {σ : L2.St} {H1 : Hp} {D : Addr} {Qd : Hp → Prop}
    (hn : l.length < sizeLine) (hD : H1 D = none) (hG : ∀ H, Same H1 H → G H)
    (hs : ∀ i a x H H', l[i]? = some a → Same H1 H → Y i H x H' → ∀ (N1 : V → Hp → Prop) (N0 : Hp → Prop), (∀ q us H4, Same H H4 → f a = some us → H4 q = some (.tup us) → N1 (.ref q) H4) → (∀ H3, Same H H3 → f a = none → N0 H3) →
      g x (wipe σ vs) H' fun σ2 H2 => wipe σ2 vs = wipe σ vs ∧ tt σ2 H2 fun b H3 => if b = true then te σ2 H3 N1 else N0 H3)
    (hd : ∀ H qs, Same H1 H → H D = some (.lst (qs.map V.ref)) → TupsAt H qs (l.filterMap f) → Qd H) :
    ∃ W : Nat → Nat → Hp → Prop, (∃ m, W 0 m (upd H1 D (.lst []))) ∧ ∀ i m H, W i m H →
      (J.stop i H ∧ Qd H) ∨ (J.go i H ∧ ∃ Nx : Hp → Prop, (∀ H', Nx H' → ∃ m', m' < m ∧ W (i + 1) m' H') ∧ ∀ x H', J.yld i H x H' → g x (wipe σ vs) H' fun σ2 H2 => wipe σ2 vs = wipe σ vs ∧ tt σ2 H2 fun b H3 =>
        if b = true then te σ2 H3 fun y H4 => ∃ acc, H4 D = some (.lst acc) ∧ acc.length < sizeLine ∧ Nx (upd H4 D (.lst (acc ++ [y]))) else Nx H3) := by
  have new : ∀ {H : Hp} {o : HO}, Same H1 H → Same H1 (upd H D o) := fun {H o} s b u e => by
    rw [upd_ne (ne_of_none e hD)]
    exact s b u e
  refine lc_it w (fun i H => Same H1 H ∧ ∃ qs : List Addr, H D = some (.lst (qs.map V.ref)) ∧ TupsAt H qs ((l.take i).filterMap f)) ⟨new (Same.refl _), [], ?_, ?_⟩ (fun i H _ p => hG H p.1) (fun i x H H' hi p y => ?_) (fun H p => ?_)
  · rw [upd_same]
    rfl
  · simp only [List.take_zero, List.filterMap_nil]
    exact .nil
  · obtain ⟨a, ha⟩ : ∃ a, l[i]? = some a := ⟨l[i], by simp [hi]⟩
    obtain ⟨s1, qs, eD, tq⟩ := p
    refine hs i a x H H' ha s1 y _ _ (fun q us H4 s4 ef eq => ⟨_, s4 _ _ eD, ?_, new (s1.trans s4), qs ++ [q], ?_, ?_⟩) (fun H3 s3 ef => ⟨s1.trans s3, qs, s3 _ _ eD, ?_⟩)
    · have h1 := List.length_filterMap_le f (l.take i)
      have h2 : (l.take i).length ≤ l.length := by rw [List.length_take]; omega
      have h3 := Paired.length tq
      rw [List.length_map]
      omega
    · rw [upd_same, List.map_append]
      rfl
    · rw [filterMap_take f ha, ef]
      exact Paired.app ((tq.same s4).upd (s4 _ _ eD)) (.cons (by rw [upd_ne (fun z => by rw [z, s4 _ _ eD] at eq; cases eq)]; exact eq) .nil)
    · rw [filterMap_take f ha, ef]
      simpa using tq.same s3
  · obtain ⟨s1, qs, eD, tq⟩ := p
    rw [List.take_length] at tq
    exact hd H qs s1 eD tq
section
variable {K : PySem.W.Frag} {te0 : TE} {g : TG} {tt : TT} {te : TE} {vs : List Nat} {σ : L2.St} {H : Hp} {Q : VK}
def TurnT {α : Type} (f : α → Option (List V)) (g : TG) (tt : TT) (te : TE) (vs : List Nat) (σ : L2.St) (H : Hp) (a : α) (x : V) : Prop :=
  ∀ (N1 : V → Hp → Prop) (N0 : Hp → Prop), (∀ q us H4, Same H H4 → f a = some us → H4 q = some (.tup us) → N1 (.ref q) H4) → (∀ H3, Same H H3 → f a = none → N0 H3) →
    g x (wipe σ vs) H fun σ2 H2 => wipe σ2 vs = wipe σ vs ∧ tt σ2 H2 fun b H3 => if b = true then te σ2 H3 N1 else N0 H3
/-- over a list that is made, or stands -/
theorem lcLT {α : Type} {l : List α} (it : α → V) (f : α → Option (List V)) (src : ∀ R : VK, (∀ p H1, Same H H1 → SqL K H1 p (l.map it) → R (.ref p) H1) → te0 σ H R) (hn : l.length < sizeLine)
    (hs : ∀ a H', a ∈ l → Same H H' → TurnT f g tt te vs σ H' a (it a))
    (hd : ∀ D H' qs, H D = none → Same H H' → H' D = some (.lst (qs.map V.ref)) → TupsAt H' qs (l.filterMap f) → Q (.ref D) H') : tLc (iList K te0) g tt te vs σ H Q := by
  refine src _ fun p H1 s1 hp => ⟨p, rfl, ⟨_, hp⟩, fun D hD => ?_⟩
  have w : Walk (Itl K p) l.length (fun H => SqL K H p (l.map it)) (YAt (l.map it)) := by
    have w := walk_list (K := K) (a := p) (xs := l.map it)
    rw [List.length_map] at w
    exact w
  refine lc_roT l w f hn hD (fun H' s => s.seq hp) (fun i a x H2 H3 ha s2 y => ?_) (fun H' qs s2 e t => hd D H' qs (s1.free hD) (s1.trans s2) e t)
  obtain ⟨rfl, hx⟩ := y
  have e : x = it a := by
    rw [List.getElem?_map, ha] at hx
    exact (Option.some.inj hx).symm
  subst e
  exact hs a _ (List.mem_of_getElem? ha) (s1.trans s2)
/-- over a dict's keys, under its lock -/
theorem lcKT {α : Type} {l : List α} {d : Addr} (kv : α → Key × V) (f : α → Option (List V)) (hk : H d = some (.dK (l.map kv))) (src : ∀ (H' : Hp) (R : VK), (∀ b o, b ≠ d → H b = some o → H' b = some o) → R (.ref d) H' → te0 σ H' R) (hn : l.length < sizeLine)
    (hs : ∀ a H' od, a ∈ l → (∀ b o, b ≠ d → H b = some o → H' b = some o) → H' d = some (.frz od (.dK (l.map kv))) → TurnT f g tt te vs σ H' a (kV (kv a).1))
    (hd : ∀ D H' qs, H D = none → Same H H' → H' D = some (.lst (qs.map V.ref)) → TupsAt H' qs (l.filterMap f) → Q (.ref D) H') : tLockE (tLc (iKeys te0) g tt te vs) σ H Q := by
  refine ⟨d, _, hk, trivial, fun od => ?_⟩
  have un : ∀ H', Same (upd H d (.frz od (.dK (l.map kv)))) H' → ∀ b o, b ≠ d → H b = some o → H' b = some o := fun H' s b o hb e => s b o (by rw [upd_ne hb]; exact e)
  refine src _ _ (un _ (Same.refl _)) ⟨d, od, rfl, .inl ⟨_, upd_same, fun D hD => ?_⟩⟩
  have nD : D ≠ d := fun z => by
    rw [z, upd_same] at hD
    cases hD
  have w : Walk (Itk d od (l.map kv)) l.length (fun H => H d = some (.frz od (.dK (l.map kv)))) (fun i H x H' => H' = H ∧ ∃ k v, (l.map kv)[i]? = some (k, v) ∧ x = kV k) := by
    have w := walk_keys (d := d) (o := od) (kvs := l.map kv)
    rw [List.length_map] at w
    exact w
  refine lc_roT l w f hn hD (fun H' s => s _ _ upd_same) (fun i a x H2 H3 ha s2 y => ?_) (fun H' qs s2 e t => ⟨s2 _ _ upd_same, hd D _ qs (by rw [upd_ne nD] at hD; exact hD) (Same.lock hk s2) (by rw [upd_ne nD]; exact e) (t.keep fun b xs q => by
    rw [upd_ne (fun z => by rw [z, s2 _ _ upd_same] at q; cases q)]
    exact q)⟩)
  obtain ⟨rfl, k, v, hx, rfl⟩ := y
  have e : (k, v) = kv a := by
    rw [List.getElem?_map, ha] at hx
    exact (Option.some.inj hx).symm
  have e1 : k = (kv a).1 := congrArg Prod.fst e
  rw [e1]
  exact hs a _ od (List.mem_of_getElem? ha) (un _ s2) (s2 _ _ upd_same)
end
/-- for over a dict's keys, under its lock -/
theorem forK {α : Type} {te0 : TE} {g : TG} {tb : TS} {D : Ends} {σ : L2.St} {H : Hp} {l : List α} {d : Addr} (kv : α → Key × V) (hk : H d = some (.dK (l.map kv))) (src : ∀ (H' : Hp) (R : VK), (∀ b o, b ≠ d → H b = some o → H' b = some o) → R (.ref d) H' → te0 σ H' R)
    (Pv : Obj → Nat → L2.St → Hp → Prop) (h0 : ∀ od H', (∀ b o, b ≠ d → H b = some o → H' b = some o) → (∀ b o, b ≠ d → H' b = some o → H b = some o) → H' d = some (.frz od (.dK (l.map kv))) → Pv od 0 σ H') (hG : ∀ od i σ' H', i ≤ l.length → Pv od i σ' H' → H' d = some (.frz od (.dK (l.map kv))))
    (hs : ∀ od i a σ' H' (D' : Ends), l[i]? = some a → Pv od i σ' H' → (∀ σ2 H2, Pv od (i + 1) σ2 H2 → D'.nx σ2 H2) → (∀ σ2 H2, Pv od (i + 1) σ2 H2 → D'.ct σ2 H2) → (∀ v H2, H2 d = some (.frz od (.dK (l.map kv))) → D.rt v (upd H2 d (.dK (l.map kv))) → D'.rt v H2) →
      g (kV (kv a).1) σ' H' fun σ2 H2 => tb D' σ2 H2)
    (hd : ∀ od σ' H', Pv od l.length σ' H' → D.nx σ' (upd H' d (.dK (l.map kv)))) : tLock (tFor (iKeys te0) g tb) D σ H := by
  refine ⟨d, _, hk, trivial, fun od => ?_⟩
  have un : ∀ b o, b ≠ d → H b = some o → upd H d (.frz od (.dK (l.map kv))) b = some o := fun b o hb e => by rw [upd_ne hb]; exact e
  have nu : ∀ b o, b ≠ d → upd H d (.frz od (.dK (l.map kv))) b = some o → H b = some o := fun b o hb e => by rw [upd_ne hb] at e; exact e
  refine src _ _ un ⟨d, od, rfl, .inl ⟨_, upd_same, ?_⟩⟩
  have w : Walk (Itk d od (l.map kv)) l.length (fun H => H d = some (.frz od (.dK (l.map kv)))) (fun i H x H' => H' = H ∧ ∃ k v, (l.map kv)[i]? = some (k, v) ∧ x = kV k) := by
    have w := walk_keys (d := d) (o := od) (kvs := l.map kv)
    rw [List.length_map] at w
    exact w
  refine for_it w (Pv od) (h0 od _ un nu upd_same) (hG od) (fun i x σ' H2 H3 hi p1 y => ?_) (fun σ' H' p => ⟨hG od _ σ' H' (Nat.le_refl _) p, hd od σ' H' p⟩)
  obtain ⟨rfl, k, v, hx, rfl⟩ := y
  obtain ⟨a, ha⟩ : ∃ a, l[i]? = some a := ⟨l[i], by simp [hi]⟩
  have e : (k, v) = kv a := by
    rw [List.getElem?_map, ha] at hx
    exact (Option.some.inj hx).symm
  have e1 : k = (kv a).1 := congrArg Prod.fst e
  rw [e1]
  exact hs od i a σ' _ _ ha p1 (fun _ _ h => h) (fun _ _ h => h) (fun v H2 h1 h2 => ⟨h1, h2⟩)
/-- for over a list that is made right there -/
theorem forN2 {α : Type} {K : PySem.W.Frag} {te0 : TE} {g : TG} {tb : TS} {D : Ends} {σ : L2.St} {H : Hp} {l : List α} (it : α → V) (src : ∀ R : VK, New (.lst (l.map it)) H R → te0 σ H R)
    (Pv : Addr → Nat → L2.St → Hp → Prop) (h0 : ∀ p H1, H p = none → Same H H1 → H1 p = some (.lst (l.map it)) → Pv p 0 σ H1) (hG : ∀ p i σ' H', i ≤ l.length → Pv p i σ' H' → SqL K H' p (l.map it))
    (hs : ∀ p i a σ' H' (D' : Ends), l[i]? = some a → Pv p i σ' H' → (∀ σ2 H2, Pv p (i + 1) σ2 H2 → D'.nx σ2 H2) → (∀ σ2 H2, Pv p (i + 1) σ2 H2 → D'.ct σ2 H2) → D'.rt = D.rt → D'.bk = D.nx → g (it a) σ' H' fun σ2 H2 => tb D' σ2 H2)
    (hd : ∀ p σ' H', Pv p l.length σ' H' → D.nx σ' H') : tFor (iList K te0) g tb D σ H := by
  refine src _ fun p H1 n1 s1 e1 => ⟨p, rfl, ⟨_, SqL.of e1⟩, ?_⟩
  have w : Walk (Itl K p) l.length (fun H => SqL K H p (l.map it)) (YAt (l.map it)) := by
    have w := walk_list (K := K) (a := p) (xs := l.map it)
    rw [List.length_map] at w
    exact w
  refine for_it w (Pv p) (h0 p H1 n1 s1 e1) (hG p) (fun i x σ' H2 H3 hi p1 y => ?_) (hd p)
  obtain ⟨rfl, hx⟩ := y
  obtain ⟨a, ha⟩ : ∃ a, l[i]? = some a := ⟨l[i], by simp [hi]⟩
  have e : x = it a := by
    rw [List.getElem?_map, ha] at hx
    exact (Option.some.inj hx).symm
  subst e
  exact hs p i a σ' _ _ ha p1 (fun _ _ h => h) (fun _ _ h => h) rfl rfl
theorem SqL.updL {K : PySem.W.Frag} {H : Hp} {p f : Addr} {xs : List V} {o : HO} (h : SqL K H p xs) (n : p ≠ f) : SqL K (upd H f o) p xs := by
  rcases h with (h | ⟨u, h⟩) | h
  · exact .inl (.inl (by rw [upd_ne n]; exact h))
  · exact .inl (.inr ⟨u, by rw [upd_ne n]; exact h⟩)
  · exact .inr h
theorem filterMap_fun {α β : Type} (l : List α) (f : α → β) : (l.filterMap fun a => some (f a)) = l.map f := congrFun List.filterMap_eq_map' l
end Vw
namespace Vw
open PySem PySem.Spec PyProof.Rows L2
/-- t + u of tuples, none empty: a new one -/
def rCatTN (K : PySem.W.Frag) : R2 := fun x y H Q => ∃ a b xs ys, x = .ref a ∧ y = .ref b ∧ SqT K H a xs ∧ SqT K H b ys ∧ xs ≠ [] ∧ ys ≠ [] ∧ xs.length + ys.length ≤ sizeLine ∧ New (.tup (xs ++ ys)) H Q
theorem op_catTK (K : PySem.W.Frag) {X : Cx} (hK : X.K = K := by rfl) : OpR X (binaryOp .Add) (rCatTN K) := by
  subst hK
  intro pins s σ H x y v u Q I rx ry h
  obtain ⟨a, b, xs, ys, h1, h2, h3, h4, h5, h6, h7, h8⟩ := h
  exact op_catT pins s σ H x y v u Q I rx ry ⟨a, b, xs, ys, h1, h2, h3, h4, h5, h7, fun z => absurd z h6, fun _ => h8.use⟩
theorem sl_tupNK (K : PySem.W.Frag) {X : Cx} (hK : X.K = K := by rfl) : SlR X (rSlTN K) := by
  subst hK
  exact sl_tupN
theorem sl_listNK (K : PySem.W.Frag) {X : Cx} (hK : X.K = K := by rfl) : SlR X (rSlN K) := by
  subst hK
  exact sl_listN
end Vw
namespace Vw
open PySem PySem.Spec PyProof.Rows L2
local macro_rules | `(tactic| walk_at "rd") => `(tactic| simp only [tSeq, tNext, tIfS, tAsg, tRet, tRetN, tDrop, tVar, tC, tOp, tUn, tTest, tB, tAnd, tOr, tNot, tAndV, tOrV, tNotV, tIf, tChain, tCB, tCons, tNil, tCall, tMeth, tMake, tFld, sFld, tTup, tLst, tTupS, tLstS, tDNewKS, tDNewTS, tTold, tCmp, t2I, tIsN, tNotN, tPar, gName, gNil, gCons, gTup, gSub, rI0, rU, rEq, rNe, tDGet, tDIn, tDNotIn, sDPut, tDNewK, tDGet1, tDGet2, tDPop1, tDPop2, tBM, tBM0, tM0, tM1, tSl, tPart, tNoPart, tBreak, tCont, tThru, L2.start, List.map_cons, List.map_nil, List.length_cons, List.length_nil, List.cons_append, List.nil_append, List.append_nil, List.replicate_succ, List.replicate_zero, Nat.reduceAdd, Nat.reduceSub, Nat.zero_add, List.getElem?_cons_zero, List.getElem?_cons_succ, List.set_cons_zero, List.set_cons_succ, wipe, cxOf_K, tYes, List.cons.injEq, and_self, Option.some.injEq, V.int.injEq, V.bl.injEq, V.ref.injEq, V.str.injEq, exists_eq_left', exists_eq_left, exists_and_left, and_assoc, true_and, and_true, if_true, if_false, ite_true, ite_false, Bool.not_true, Bool.not_false, Bool.false_eq_true, reduceIte])
def sixL : List Str := ["ann", "bob", "cy", "dd", "eve", "fay"]
/-- t + u, t not empty -/
def rCatU (K : PySem.W.Frag) : R2 := fun x y H Q => ∃ a b xs ys, x = .ref a ∧ y = .ref b ∧ SqT K H a xs ∧ SqT K H b ys ∧ xs ≠ [] ∧ xs.length + ys.length ≤ sizeLine ∧ ∀ q H', Same H H' → SqT K H' q (xs ++ ys) → Q (.ref q) H'
theorem op_catU {X : Cx} : OpR X (binaryOp .Add) (rCatU X.K) := by
  intro pins s σ H x y v u Q I rx ry h
  obtain ⟨a, b, xs, ys, h1, h2, h3, h4, h5, h6, h7⟩ := h
  refine op_catT pins s σ H x y v u Q I rx ry ⟨a, b, xs, ys, h1, h2, h3, h4, h5, h6, fun z => h7 a H (Same.refl _) ?_, fun _ p n => h7 p _ (Same.new n) (.inl (.inl upd_same))⟩
  rw [z, List.append_nil]
  exact h3
theorem cut_t (xs : List V) (k : Nat) : cutV xs none (some (k : Int)) = xs.take k := by
  unfold cutV
  rw [HT.sIx_none, HT.sIx_nat, List.drop_zero, Nat.sub_zero, ← List.take_eq_take_min]
theorem cut_d (xs : List V) (k : Nat) : cutV xs (some (k : Int)) none = xs.drop k := by
  unfold cutV
  rw [HT.sIx_none, HT.sIx_nat, List.take_of_length_le (by rw [List.length_drop]; omega)]
  rcases Nat.le_total k xs.length with h | h
  · rw [Nat.min_eq_left h]
  · rw [Nat.min_eq_right h, List.drop_of_length_le h, List.drop_of_length_le (Nat.le_refl _)]
theorem cut_t2 (xs : List V) : cutV xs none (some 2) = xs.take 2 := cut_t xs 2
theorem cut_t3 (xs : List V) : cutV xs none (some 3) = xs.take 3 := cut_t xs 3
theorem cut_d3 (xs : List V) : cutV xs (some 3) none = xs.drop 3 := cut_d xs 3
theorem at_0 (x : V) (l : List V) : atI (x :: l) 0 = some x := by
  rw [atI_nn (Int.le_refl 0) (by rw [List.length_cons]; omega)]
  rfl
theorem at_2 (x y z : V) (l : List V) : atI (x :: y :: z :: l) 2 = some z := by
  rw [atI_nn (by decide) (by rw [List.length_cons, List.length_cons, List.length_cons]; omega)]
  rfl
theorem six_at {i : Nat} (h : i < 6) : ∃ z : Str, sixL[i]? = some z ∧ atI (sixL.map V.str) (((i : Int) + 2) % 6) = some (.str (nameS z)) ∧ (∀ m, m < i → ∀ z', sixL[m]? = some z' → z' ≠ z) := by
  have : i = 0 ∨ i = 1 ∨ i = 2 ∨ i = 3 ∨ i = 4 ∨ i = 5 := by omega
  rcases this with rfl | rfl | rfl | rfl | rfl | rfl <;> refine ⟨_, rfl, by decide +kernel, ?_⟩ <;> decide +kernel
theorem not_six {z : Str} (h : z ∉ sixL) : nameS z = z := by
  have q : ∀ y ∈ sixL, z ≠ y := fun y hy e => h (e ▸ hy)
  unfold nameS
  rw [if_neg (q _ (by simp [sixL])), if_neg (q _ (by simp [sixL])), if_neg (q _ (by simp [sixL])), if_neg (q _ (by simp [sixL])), if_neg (q _ (by simp [sixL])), if_neg (q _ (by simp [sixL]))]
section
variable {P : Program} {w : World} {K : PySem.W.Frag} {mg : Str → Option Value} {base : Heap}
def spOther : Sp := fun vs H Q _ => ∃ z : Str, vs = [.str z] ∧ ∀ H', Same H H' → Q (.str (nameS z)) H'
abbrev N__law_other_name : List Str := ["name", "names"]
theorem sc__law_other_name : FnScope N__law_other_name ["name"] (defScope s__law_other_name) := ⟨rfl, rfl, rfl, by decide +kernel, rfl, by decide +kernel, by decide +kernel⟩
theorem be__law_other_name : BindEq "_law_other_name" "_law_other_name" s__law_other_name ["name"] := fun _ _ _ _ _ _ us hl => match us, hl with | [_], _ => rfl
theorem D__law_other_name (T : Txt K mg base) : Def P w K mg base 1 (He.ga K "_law_other_name") ["name"] spOther := by
  refine mk_def T.f__law_other_name sc__law_other_name be__law_other_name (fun vs H Q E h => ?_) (fun cdv A outer s H vs Q E hr h => ?_)
  · obtain ⟨z, rfl, _⟩ := h
    rfl
  · obtain ⟨z, rfl, k⟩ := h
    refine ⟨_, (pss_cons (ps_set (i := 1) sc__law_other_name.nd rfl (Or.inl rfl) (pe_lstS (pa_cons pe_str (pa_cons pe_str (pa_cons pe_str (pa_cons pe_str (pa_cons pe_str (pa_cons pe_str pa_nil))))))))
      (pss_one (ps_ret (pe_ifExp (pt_cmpR op_in_seq (pv 0) (pv 1) rfl) (pe_ix ix_list (pv 1) (pe_op op_mod (pe_op op_add (pe_bm PySem.F.plainAttrs_list PySem.F.slot_list_index PySem.F.type_list_index mt_index (pv 1) (pa_cons (pv 0) pa_nil)) pe_int) pe_int) (fun _ _ => rfl)) (pv 0))))), ?_⟩
    walk_at "rd"
    have z9 : (1000 : Nat) < sizeLine := by rw [sizeLine_eq]; omega
    refine ⟨by omega, fun p H1 n1 s1 e1 => ?_⟩
    have e1 : H1 p = some (.lst (sixL.map V.str)) := e1
    refine ⟨p, sixL.map V.str, rfl, .inl (SqL.of e1), rfl, by rfl, _, rfl, ?_⟩
    simp only [Bool.false_eq_true, reduceIte]
    rw [inV_str]
    by_cases c : z ∈ sixL
    · rw [decide_eq_true c]
      obtain ⟨i, hi⟩ := List.getElem?_of_mem c
      have hl : i < 6 := (List.getElem?_eq_some_iff.mp hi).1
      obtain ⟨z', h1, h2, h3⟩ := six_at hl
      cases hi.symm.trans h1
      refine iteT ⟨.inl ⟨rfl, _, SqL.of e1⟩, p, sixL.map V.str, .str z, i, .str z, rfl, rfl, SqL.of e1, rfl, by rfl, by rw [List.getElem?_map, hi]; rfl, by simp [eqV], fun m v hm hv => ?_, _, rfl, use_mod ⟨p, _, _, _, rfl, rfl, SqL.of e1, h2, k H1 s1⟩⟩
      rw [List.getElem?_map] at hv
      cases q : sixL[m]? with
      | none => rw [q] at hv; cases hv
      | some y =>
        rw [q] at hv
        cases hv
        have := h3 m hm y q
        simp [eqV, this]
    · rw [decide_eq_false c]
      refine iteF ?_
      have := k H1 s1
      rw [not_six c] at this
      exact this
def spNamed (K : PySem.W.Frag) : Sp := fun vs H Q _ => ∃ (p : Addr) (d : Deed), vs = [.ref p] ∧ SqT K H p d.tup ∧ ∀ q H', Same H H' → SqT K H' q (nameD d).tup → Q (.ref q) H'
abbrev N__law_named : List Str := ["deed"]
theorem sc__law_named : FnScope N__law_named ["deed"] (defScope s__law_named) := ⟨rfl, rfl, rfl, by decide +kernel, rfl, by decide +kernel, by decide +kernel⟩
theorem be__law_named : BindEq "_law_named" "_law_named" s__law_named ["deed"] := fun _ _ _ _ _ _ us hl => match us, hl with | [_], _ => rfl
theorem D__law_named (T : Txt K mg base) : Def P w K mg base 2 (He.ga K "_law_named") ["deed"] (spNamed K) := by
  refine mk_def T.f__law_named sc__law_named be__law_named (fun vs H Q E h => ?_) (fun cdv A outer s H vs Q E hr h => ?_)
  · obtain ⟨p, d, rfl, _⟩ := h
    rfl
  · obtain ⟨p, d, rfl, hp, k⟩ := h
    refine ⟨_, (pss_cons (ps_if (pt_cmpR op_in_seq (pe_ix ix_tup (pv 0) pe_int (fun _ _ => rfl)) (pe_tupS (pa_cons pe_str (pa_cons pe_str (pa_cons pe_str (pa_cons pe_str pa_nil))))) rfl) (pss_one (ps_ret (pe_op op_catU (pe_op op_catU (pe_slice sl_tupN (pv 0) po_none (po_some pe_int)) (pe_tupS (pa_cons (pe_cd (D__law_other_name T) (by exact hr.mono (by first | decide | omega)) T.g__law_other_name passE (pa_cons (pe_ix ix_tup (pv 0) pe_int (fun _ _ => rfl)) pa_nil)) pa_nil))) (pe_slice sl_tupN (pv 0) (po_some pe_int) po_none)))) pss_nil)
      (pss_one (ps_ret (pv 0)))), ?_⟩
    walk_at "rd"
    have z9 : (1000 : Nat) < sizeLine := by rw [sizeLine_eq]; omega
    have kd : (∃ (w : V) (n : Int) (who : Str) (r : List V), d.tup = w :: .int n :: .str who :: r ∧ inV w [V.str (Str.ofString "say"), V.str (Str.ofString "vote"), V.str (Str.ofString "change"), V.str (Str.ofString "strike")] = true ∧ r.length ≤ 1 ∧ flatV w = true ∧ (nameD d).tup = w :: .int n :: .str (nameS who) :: r) ∨ ∃ (n : Int) (who : Str), d = .tick n who := by
      cases d with
      | say n who t => exact .inl ⟨_, n, who, [.str t], rfl, by decide +kernel, by simp, rfl, rfl⟩
      | change n who t => exact .inl ⟨_, n, who, [.str t], rfl, by decide +kernel, by simp, rfl, rfl⟩
      | strike n who => exact .inl ⟨_, n, who, [], rfl, by decide +kernel, by simp, rfl, rfl⟩
      | vote n who way => exact .inl ⟨_, n, who, [.int way], rfl, by decide +kernel, by simp, rfl, by show [_, _, _, V.int (1 * way)] = _; rw [Int.one_mul]⟩
      | tick n who => exact .inr ⟨n, who, rfl⟩
    rcases kd with ⟨w, n, who, r, e, hw, hr', hf, en⟩ | ⟨n, who, rfl⟩
    · rw [e] at hp
      refine ⟨p, _, 0, w, rfl, rfl, hp, at_0 _ _, by omega, fun q H1 n1 s1 e1 => ⟨q, _, rfl, .inr (SqT.of e1), hf, rfl, _, rfl, ?_⟩⟩
      simp only [Bool.false_eq_true, reduceIte]
      rw [hw]
      have hp1 := (LK.same s1).sqt hp
      refine iteT ⟨p, _, rfl, hp1, fun q2 H2 s2 e2 => ⟨p, _, 2, .str who, rfl, rfl, (LK.same s2).sqt hp1, at_2 _ _ _ _, who, rfl, fun H3 s3 => ⟨by omega, fun q3 H4 n4 s4 e4 => ?_⟩⟩⟩
      rw [cut_t2] at e2
      have hp4 := (LK.same (s2.trans (s3.trans s4))).sqt hp1
      refine ⟨q2, q3, _, _, rfl, rfl, (LK.same (s3.trans s4)).sqt e2, SqT.of e4, by simp, by simp; omega, fun q4 H5 s5 e5 => ⟨p, _, rfl, (LK.same s5).sqt hp4, fun q6 H6 s6 e6 => ?_⟩⟩
      rw [cut_d3] at e6
      refine ⟨q4, q6, _, _, rfl, rfl, (LK.same s6).sqt e5, e6, by simp, by simp; omega, fun q7 H7 s7 e7 => ?_⟩
      refine k q7 H7 (s1.trans (s2.trans (s3.trans (s4.trans (s5.trans (s6.trans s7)))))) ?_
      rw [en]
      exact e7
    · refine ⟨p, _, 0, .str (Str.ofString "tick"), rfl, rfl, hp, rfl, by omega, fun q H1 n1 s1 e1 => ⟨q, _, rfl, .inr (SqT.of e1), rfl, rfl, _, rfl, ?_⟩⟩
      simp only [Bool.false_eq_true, reduceIte]
      rw [show inV (V.str (Str.ofString "tick")) [V.str (Str.ofString "say"), V.str (Str.ofString "vote"), V.str (Str.ofString "change"), V.str (Str.ofString "strike")] = false by decide +kernel]
      exact iteF (k p H1 s1 ((LK.same s1).sqt hp))
def spTurned (K : PySem.W.Frag) : Sp := fun vs H Q _ => ∃ (p : Addr) (d : Deed), vs = [.ref p] ∧ SqT K H p d.tup ∧ ∀ q H', Same H H' → SqT K H' q (turnD d).tup → Q (.ref q) H'
abbrev N__law_turned : List Str := ["deed"]
theorem sc__law_turned : FnScope N__law_turned ["deed"] (defScope s__law_turned) := ⟨rfl, rfl, rfl, by decide +kernel, rfl, by decide +kernel, by decide +kernel⟩
theorem be__law_turned : BindEq "_law_turned" "_law_turned" s__law_turned ["deed"] := fun _ _ _ _ _ _ us hl => match us, hl with | [_], _ => rfl
theorem D__law_turned (T : Txt K mg base) : Def P w K mg base 1 (He.ga K "_law_turned") ["deed"] (spTurned K) := by
  refine mk_def T.f__law_turned sc__law_turned be__law_turned (fun vs H Q E h => ?_) (fun cdv A outer s H vs Q E hr h => ?_)
  · obtain ⟨p, d, rfl, _⟩ := h
    rfl
  · obtain ⟨p, d, rfl, hp, k⟩ := h
    refine ⟨_, (pss_one (ps_ret (pe_ifExp (pt_cmpR op_eq (pe_ix ix_tup (pv 0) pe_int (fun _ _ => rfl)) pe_str (nomark _)) (pe_op op_catU (pe_slice sl_tupN (pv 0) po_none (po_some pe_int)) (pe_tupS (pa_cons (pe_op op_sub pe_int (pe_ix ix_tup (pv 0) pe_int (fun _ _ => rfl))) pa_nil))) (pv 0)))), ?_⟩
    walk_at "rd"
    have z9 : (1000 : Nat) < sizeLine := by rw [sizeLine_eq]; omega
    have kd : (∃ (w : String) (r : List V), d.tup = .str (Str.ofString w) :: r ∧ w ≠ "vote" ∧ (turnD d).tup = d.tup) ∨ ∃ (n : Int) (who : Str) (way : Int), d = .vote n who way := by
      cases d with
      | say n who t => exact .inl ⟨"say", _, rfl, by decide, rfl⟩
      | change n who t => exact .inl ⟨"change", _, rfl, by decide, rfl⟩
      | strike n who => exact .inl ⟨"strike", _, rfl, by decide, rfl⟩
      | tick n who => exact .inl ⟨"tick", _, rfl, by decide, rfl⟩
      | vote n who way => exact .inr ⟨n, who, way, rfl⟩
    rcases kd with ⟨w, r, e, hw, en⟩ | ⟨n, who, way, rfl⟩
    · have hp' := hp
      rw [e] at hp'
      refine ⟨p, _, 0, .str (Str.ofString w), rfl, rfl, hp', at_0 _ _, rfl, ?_⟩
      rw [dq hw]
      exact iteF (k p H (Same.refl _) (by rw [en]; exact hp))
    · refine ⟨p, _, 0, .str (Str.ofString "vote"), rfl, rfl, hp, rfl, rfl, ?_⟩
      rw [decide_eq_true rfl]
      refine iteT ⟨p, _, rfl, hp, fun q2 H2 s2 e2 => ⟨p, _, 3, .int way, rfl, rfl, (LK.same s2).sqt hp, rfl, way, rfl, by omega, fun q3 H3 n3 s3 e3 => ?_⟩⟩
      rw [cut_t3] at e2
      refine ⟨q2, q3, _, _, rfl, rfl, (LK.same s3).sqt e2, SqT.of e3, by simp [Deed.tup], by simp [Deed.tup]; omega, fun q4 H4 s4 e4 => ?_⟩
      refine k q4 H4 (s2.trans (s3.trans s4)) ?_
      show SqT K H4 q4 [.str "vote", .int n, .str who, .int (-1 * way)]
      rw [show -1 * way = 0 - way by omega]
      exact e4
end
end Vw
namespace Vw
open PySem PySem.Spec PyProof.Rows L2
local macro_rules | `(tactic| walk_at "rd") => `(tactic| simp only [tSeq, tNext, tIfS, tAsg, tRet, tRetN, tDrop, tVar, tC, tOp, tUn, tTest, tB, tAnd, tOr, tNot, tAndV, tOrV, tNotV, tIf, tChain, tCB, tCons, tNil, tCall, tMeth, tMake, tFld, sFld, tTup, tLst, tTupS, tLstS, tDNewKS, tDNewTS, tTold, tCmp, t2I, tIsN, tNotN, tPar, gName, gNil, gCons, gTup, gSub, rI0, rU, rEq, rNe, tDGet, tDIn, tDNotIn, sDPut, tDNewK, tDGet1, tDGet2, tDPop1, tDPop2, tBM, tBM0, tM0, tM1, tSl, tPart, tNoPart, tBreak, tCont, tThru, L2.start, List.map_cons, List.map_nil, List.length_cons, List.length_nil, List.cons_append, List.nil_append, List.append_nil, List.replicate_succ, List.replicate_zero, Nat.reduceAdd, Nat.reduceSub, Nat.zero_add, List.getElem?_cons_zero, List.getElem?_cons_succ, List.set_cons_zero, List.set_cons_succ, wipe, cxOf_K, tYes, List.cons.injEq, and_self, Option.some.injEq, V.int.injEq, V.bl.injEq, V.ref.injEq, V.str.injEq, exists_eq_left', exists_eq_left, exists_and_left, and_assoc, true_and, and_true, if_true, if_false, ite_true, ite_false, Bool.not_true, Bool.not_false, Bool.false_eq_true, reduceIte])
theorem Fine.bnd {M : Wd} {m : Nat} (f : Fine M m) (hm : m ≤ 9000) : Bnd M := by
  have h1 := f.cm
  have h2 := f.k0
  have h3 := f.km
  refine ⟨fun p hp => ?_, by omega⟩
  have a := f.G.wf.pos p hp
  have b := f.G.le p hp
  have c := f.tm p hp
  have d := f.vl p hp
  omega
theorem cutV_ints (ns : List Int) (lo hi : Option Int) : ∃ cs : List Int, cutV (ns.map V.int) lo hi = cs.map V.int ∧ (∀ c ∈ cs, c ∈ ns) ∧ cs.length ≤ ns.length := by
  unfold cutV
  refine ⟨(ns.drop _).take _, by rw [List.map_take, List.map_drop], fun c hc => List.mem_of_mem_drop (List.mem_of_mem_take hc), ?_⟩
  rw [List.length_take, List.length_drop]
  omega
theorem use_ord {K : PySem.W.Frag} {H : Hp} {L : Lay} {n : Int} {z : Str} {Q : VK} {E : XK} (W : WoodAt K H L) (G : Good L.wd) (bd : Bnd L.wd) (h : n = 0 ∨ ∃ r, findR L.rows n = some r) (hz : z ∈ measL)
    (q : ∀ ys, IsOrd L.wd z (sortI (repliesR L.rows n)) ys → New (.lst (ys.map V.int)) H Q) : spOrdered K [.ref L.p, .int n, .str z] H Q E := by
  have u := G.under h
  have m : measOk (.str z) = true := decide_eq_true hz
  refine ⟨L, .int n, .str z, .int n, .str z, rfl, W, G, bd, .int n, rfl, .str z, fun z => ?_, fun _ z => ?_, fun n' z' e1 e2 _ _ ys hy => ?_⟩
  · rw [u] at z
    cases z
  · rw [m] at z
    cases z
  · cases e1
    cases e2
    exact q ys hy
/-- for over a list that is only known when it is made -/
theorem forP {K : PySem.W.Frag} {te0 : TE} {g : TG} {tb : TS} {D : Ends} {σ : L2.St} {H : Hp} (Gd : Addr → List V → Hp → Prop) (src : ∀ R : VK, (∀ p l H1, SqL K H1 p l → Gd p l H1 → R (.ref p) H1) → te0 σ H R)
    (Pv : Addr → List V → Nat → L2.St → Hp → Prop) (h0 : ∀ p l H1, SqL K H1 p l → Gd p l H1 → Pv p l 0 σ H1) (hG : ∀ p l i σ' H', Pv p l i σ' H' → SqL K H' p l)
    (hs : ∀ p l i a σ' H' (D' : Ends), l[i]? = some a → Pv p l i σ' H' → (∀ σ2 H2, Pv p l (i + 1) σ2 H2 → D'.nx σ2 H2) → D'.rt = D.rt → g a σ' H' fun σ2 H2 => tb D' σ2 H2)
    (hd : ∀ p l σ' H', Pv p l l.length σ' H' → D.nx σ' H') : tFor (iList K te0) g tb D σ H := by
  refine src _ fun p l H1 hp gd => ⟨p, rfl, ⟨_, hp⟩, ?_⟩
  refine for_it (walk_list (K := K) (a := p) (xs := l)) (Pv p l) (h0 p l H1 hp gd) (fun i σ' H' _ h => hG p l i σ' H' h) (fun i x σ' H2 H3 hi p1 y => ?_) (hd p l)
  obtain ⟨rfl, hx⟩ := y
  exact hs p l i x σ' _ _ hx p1 (fun _ _ h => h) rfl
def measL6 : List V := [V.str (Str.ofString "new"), V.str (Str.ofString "old"), V.str (Str.ofString "torn"), V.str (Str.ofString "best"), V.str (Str.ofString "warm"), V.str (Str.ofString "sure")]
theorem shaped_two (a b : Int) : SeqAt.shaped (.tuple [.int a, .int b]) = true := rfl
section
variable {P : Program} {w : World} {K : PySem.W.Frag} {mg : Str → Option Value} {base : Heap}
def spTwoRight (K : PySem.W.Frag) : Sp := fun vs H Q _ => ∃ (L L2 L3 : Lay) (m : Nat) (n : Int), vs = [.ref L.p, .ref L2.p, .ref L3.p, .int n] ∧ WoodAt K H L ∧ WoodAt K H L2 ∧ WoodAt K H L3 ∧ L2.wd = turnW L.wd ∧ L3.wd = nameW L.wd ∧
  Fine L.wd m ∧ Fine L2.wd m ∧ Fine L3.wd m ∧ m ≤ 1000 ∧ (∃ r, findR L.wd.rows n = some r) ∧ ∀ H', Same H H' → Q (.bl true) H'
abbrev N__law_two_right : List Str := ["one", "other", "third", "number", "ups", "downs", "by", "under", "text", "time", "measure"]
theorem sc__law_two_right : FnScope N__law_two_right ["one", "other", "third", "number"] (defScope s__law_two_right) := ⟨rfl, rfl, rfl, by decide +kernel, rfl, by decide +kernel, by decide +kernel⟩
theorem be__law_two_right : BindEq "_law_two_right" "_law_two_right" s__law_two_right ["one", "other", "third", "number"] := fun _ _ _ _ _ _ us hl => match us, hl with | [_, _, _, _], _ => rfl
theorem D__law_two_right (T : Txt K mg base) : Def P w K mg base 20 (He.ga K "_law_two_right") ["one", "other", "third", "number"] (spTwoRight K) := by
  refine mk_def T.f__law_two_right sc__law_two_right be__law_two_right (fun vs H Q E h => ?_) (fun cdv A outer s H vs Q E hr h => ?_)
  · obtain ⟨L, L2, L3, m, n, rfl, _⟩ := h
    rfl
  · obtain ⟨L, L2, L3, m, n, rfl, W, W2, W3, e2, e3, f, f2, f3, hm, ⟨r, hn⟩, k⟩ := h
    refine ⟨_, (pss_cons (ps_asg (pe_md (pv 0) T.c_Wood.c T.m_Wood_votes_of (D_Wood_votes_of T) (by exact hr.mono (by first | decide | omega)) passE (pa_cons (pv 3) pa_nil)) (pg_tup (n := 2) (by rfl) (pgs_cons (pg_name (i := 4) sc__law_two_right.nd rfl (Or.inl rfl)) (pgs_cons (pg_name (i := 5) sc__law_two_right.nd rfl (Or.inl rfl)) pgs_nil))))
      (C8.pss_cut (ps_if (PW.pt (pw_or (pt_ned (pe_md (pv 1) T.c_Wood.c T.m_Wood_votes_of (D_Wood_votes_of T) (by exact hr.mono (by first | decide | omega)) passE (pa_cons (pv 3) pa_nil)) (pe_tupS (pa_cons (pv 5) (pa_cons (pv 4) pa_nil))) (by exact hr.units)) (pw_or1 (pt_ned (pe_md (pv 2) T.c_Wood.c T.m_Wood_votes_of (D_Wood_votes_of T) (by exact hr.mono (by first | decide | omega)) passE (pa_cons (pv 3) pa_nil)) (pe_tupS (pa_cons (pv 4) (pa_cons (pv 5) pa_nil))) (by exact hr.units))))) (pss_one (ps_ret pe_bl)) pss_nil)
      (pss_cons (ps_asg (pe_md (pv 0) T.c_Wood.c T.m_Wood_look (D_Wood_look T) (by exact hr.mono (by first | decide | omega)) passE (pa_cons (pv 3) pa_nil)) (pg_tup (n := 4) (by rfl) (pgs_cons (pg_name (i := 6) sc__law_two_right.nd rfl (Or.inl rfl)) (pgs_cons (pg_name (i := 7) sc__law_two_right.nd rfl (Or.inl rfl)) (pgs_cons (pg_name (i := 8) sc__law_two_right.nd rfl (Or.inl rfl)) (pgs_cons (pg_name (i := 9) sc__law_two_right.nd rfl (Or.inl rfl)) pgs_nil))))))
      (C8.pss_cut (ps_if (PW.pt (pw_or (pt_ned (pe_md (pv 1) T.c_Wood.c T.m_Wood_look (D_Wood_look T) (by exact hr.mono (by first | decide | omega)) passE (pa_cons (pv 3) pa_nil)) (pe_tupS (pa_cons (pv 6) (pa_cons (pv 7) (pa_cons (pv 8) (pa_cons (pv 9) pa_nil))))) (by exact hr.units)) (pw_or1 (pt_ned (pe_md (pv 2) T.c_Wood.c T.m_Wood_look (D_Wood_look T) (by exact hr.mono (by first | decide | omega)) passE (pa_cons (pv 3) pa_nil)) (pe_tupS (pa_cons (pe_cd (D__law_other_name T) (by exact hr.mono (by first | decide | omega)) T.g__law_other_name passE (pa_cons (pv 6) pa_nil)) (pa_cons (pv 7) (pa_cons (pv 8) (pa_cons (pv 9) pa_nil))))) (by exact hr.units))))) (pss_one (ps_ret pe_bl)) pss_nil)
      (pss_cons (ps_for ownE rfl (pi_list (pe_lstS (pa_cons pe_str (pa_cons pe_str (pa_cons pe_str pa_nil))))) (pg_name (i := 10) sc__law_two_right.nd rfl (Or.inl rfl))
      (pss_one (ps_if (pt_ned (pe_cd (D_ordered T) (by exact hr.mono (by first | decide | omega)) T.g_ordered passE (pa_cons (pv 1) (pa_cons (pv 3) (pa_cons (pv 10) pa_nil)))) (pe_cd (D_ordered T) (by exact hr.mono (by first | decide | omega)) T.g_ordered passE (pa_cons (pv 0) (pa_cons (pv 3) (pa_cons (pv 10) pa_nil)))) (by exact hr.units)) (pss_one (ps_ret pe_bl)) pss_nil)))
      (pss_cons (ps_for ownE rfl (pi_list (pe_lstS (pa_cons pe_str (pa_cons pe_str (pa_cons pe_str (pa_cons pe_str (pa_cons pe_str (pa_cons pe_str pa_nil)))))))) (pg_name (i := 10) sc__law_two_right.nd rfl (Or.inl rfl))
      (pss_one (ps_if (pt_ned (pe_cd (D_ordered T) (by exact hr.mono (by first | decide | omega)) T.g_ordered passE (pa_cons (pv 2) (pa_cons (pv 3) (pa_cons (pv 10) pa_nil)))) (pe_cd (D_ordered T) (by exact hr.mono (by first | decide | omega)) T.g_ordered passE (pa_cons (pv 0) (pa_cons (pv 3) (pa_cons (pv 10) pa_nil)))) (by exact hr.units)) (pss_one (ps_ret pe_bl)) pss_nil)))
      (pss_one (ps_ret (pe_and (pe_chain (op_eqD (by exact hr.units)) (op_eqD (by exact hr.units)) (pe_md (pv 0) T.c_Wood.c T.m_Wood_below (D_Wood_below T) (by exact hr.mono (by first | decide | omega)) passE (pa_cons (pv 3) pa_nil)) (pe_md (pv 1) T.c_Wood.c T.m_Wood_below (D_Wood_below T) (by exact hr.mono (by first | decide | omega)) passE (pa_cons (pv 3) pa_nil)) (pe_md (pv 2) T.c_Wood.c T.m_Wood_below (D_Wood_below T) (by exact hr.mono (by first | decide | omega)) passE (pa_cons (pv 3) pa_nil))) (pe_one (pe_cmpR op_eq (pe_md (pv 0) T.c_Wood.c T.m_Wood_many (D_Wood_many T) (by exact hr.mono (by first | decide | omega)) passE (pa_cons (pv 3) pa_nil)) (pe_md (pv 2) T.c_Wood.c T.m_Wood_many (D_Wood_many T) (by exact hr.mono (by first | decide | omega)) passE (pa_cons (pv 3) pa_nil)) (nomark _)))))))))))), ?_⟩
    walk_at "rd"
    have z9 : (1000 : Nat) < sizeLine := by rw [sizeLine_eq]; omega
    have g1 : sayingM L.wd (.int n) = some (n, r) := by rw [sayingG f.G, hn]; rfl
    have n2 : findR L2.wd.rows n = some (mapRo id (-1) r) := by
      rw [e2]
      show findR (mapRs id (-1) L.wd.rows) n = _
      rw [find_map, hn]
      rfl
    have n3 : findR L3.wd.rows n = some (mapRo nameS 1 r) := by
      rw [e3]
      show findR (mapRs nameS 1 L.wd.rows) n = _
      rw [find_map, hn]
      rfl
    have g2 : sayingM L2.wd (.int n) = some (n, mapRo id (-1) r) := by rw [sayingG f2.G, n2]; rfl
    have g3 : sayingM L3.wd (.int n) = some (n, mapRo nameS 1 r) := by rw [sayingG f3.G, n3]; rfl
    obtain ⟨u2, d2⟩ := ups_neg tw_turn r
    obtain ⟨u3, d3⟩ := ups_one tw_name r
    refine ⟨_, _, W.top, fw_no _ _ _ (by decide) (by decide) (by decide), use_votesOf W g1 fun t1 H1 nt1 st1 et1 => ⟨t1, rfl, _, .inl (.inl et1), rfl, _, _, rfl, _, _, rfl, rfl, ?_⟩⟩
    refine ⟨fun σ' H' => Same H H' ∧ σ' = [some (.ref L.p), some (.ref L2.p), some (.ref L3.p), some (.int n), some (.int r.ups), some (.int r.downs), none, none, none, none, none], ?_, ?_⟩
    · walk_at "rd"
      refine ⟨_, _, (W2.same st1).top, fw_no _ _ _ (by decide) (by decide) (by decide), use_votesOf (W2.same st1) g2 fun t2 H2 nt2 st2 et2 => ⟨by omega, fun t3 H3 nt3 st3 et3 => ?_⟩⟩
      rw [u2, d2] at et2
      refine use_neD (dp_int2 (st3 _ _ et2)) (dp_int2 et3) (shaped_two _ _) (shaped_two _ _) ⟨_, rfl, ?_⟩
      rw [eqv_pair]
      have s13 := st1.trans (st2.trans st3)
      refine iteF ⟨_, _, (W3.same s13).top, fw_no _ _ _ (by decide) (by decide) (by decide), use_votesOf (W3.same s13) g3 fun t4 H4 nt4 st4 et4 => ⟨by omega, fun t5 H5 nt5 st5 et5 => ?_⟩⟩
      rw [u3, d3] at et4
      refine use_neD (dp_int2 (st5 _ _ et4)) (dp_int2 et5) (shaped_two _ _) (shaped_two _ _) ⟨_, rfl, ?_⟩
      rw [eqv_pair]
      exact iteF (s13.trans (st4.trans st5))
    rintro σ1 H6 ⟨s6, rfl⟩
    walk_at "rd"
    have ro := f.ro _ (findR_mem hn)
    have ro2 := f2.ro _ (findR_mem n2)
    have ro3 := f3.ro _ (findR_mem n3)
    refine ⟨_, _, (W.same s6).top, fw_no _ _ _ (by decide) (by decide) (by decide), use_look (W.same s6) g1 fun t7 H7 nt7 st7 et7 => ⟨t7, rfl, _, .inl (.inl et7), rfl, _, _, rfl, _, _, rfl, _, _, rfl, _, _, rfl, rfl, ?_⟩⟩
    refine ⟨fun σ' H' => Same H H' ∧ σ' = [some (.ref L.p), some (.ref L2.p), some (.ref L3.p), some (.int n), some (.int r.ups), some (.int r.downs), some (.str r.who), some (.int r.under), some (tellV r), some (.int r.time), none], ?_, ?_⟩
    · walk_at "rd"
      have s7 := s6.trans st7
      refine ⟨_, _, (W2.same s7).top, fw_no _ _ _ (by decide) (by decide) (by decide), use_look (W2.same s7) g2 fun t8 H8 nt8 st8 et8 => ⟨by omega, fun t9 H9 nt9 st9 et9 => ?_⟩⟩
      refine use_neD (dp_look (r := mapRo id (-1) r) (st9 _ _ et8)) (dp_look (r := mapRo id (-1) r) et9) (shaped_look ro2) (shaped_look ro2) ⟨_, rfl, ?_⟩
      rw [eqv_look]
      have s9 := s7.trans (st8.trans st9)
      refine iteF ⟨_, _, (W3.same s9).top, fw_no _ _ _ (by decide) (by decide) (by decide), use_look (W3.same s9) g3 fun t10 H10 nt10 st10 et10 => ⟨r.who, rfl, fun H11 st11 => ⟨by omega, fun t12 H12 nt12 st12 et12 => ?_⟩⟩⟩
      refine use_neD (dp_look (r := mapRo nameS 1 r) ((st11.trans st12) _ _ et10)) (dp_look (r := mapRo nameS 1 r) et12) (shaped_look ro3) (shaped_look ro3) ⟨_, rfl, ?_⟩
      rw [eqv_look]
      exact iteF ⟨s9.trans (st10.trans (st11.trans st12)), rfl⟩
    rintro σ1 H8 ⟨s8, rfl⟩
    walk_at "rd"
    have rp2 : repliesR L2.rows n = repliesR L.rows n := by
      rw [show L2.rows = mapRs id (-1) L.rows from congrArg Wd.rows e2, replies_map]
    have rp3 : repliesR L3.rows n = repliesR L.rows n := by
      rw [show L3.rows = mapRs nameS 1 L.rows from congrArg Wd.rows e3, replies_map]
    have here1 : n = 0 ∨ ∃ r, findR L.rows n = some r := .inr ⟨r, hn⟩
    have here2 : n = 0 ∨ ∃ r, findR L2.rows n = some r := .inr ⟨_, n2⟩
    have here3 : n = 0 ∨ ∃ r, findR L3.rows n = some r := .inr ⟨_, n3⟩
    have b1 := f.bnd (by omega)
    have b2 := f2.bnd (by omega)
    have b3 := f3.bnd (by omega)
    refine forP (fun p l H' => Same H8 H' ∧ l = [V.str (Str.ofString "new"), V.str (Str.ofString "old"), V.str (Str.ofString "torn")]) (fun R h => ?_)
      (fun p l i σ' H' => Same H H' ∧ (∃ v, σ' = [some (V.ref L.p), some (V.ref L2.p), some (V.ref L3.p), some (V.int n), some (V.int r.ups), some (V.int r.downs), some (V.str r.who), some (V.int r.under), some (tellV r), some (V.int r.time), v]) ∧ SqL K H' p l ∧ l = [V.str (Str.ofString "new"), V.str (Str.ofString "old"), V.str (Str.ofString "torn")])
      (fun p l H' hp g => ⟨s8.trans g.1, ⟨_, rfl⟩, hp, g.2⟩) (fun p l i σ' H' h => h.2.2.1) (fun p l i v σ' H9 D' hi h9 nx rt => ?_) (fun p l σ' H9 h9 => ?_)
    · walk_at "rd"
      exact ⟨by omega, fun p H' n' s' e' => h p _ H' (SqL.of e') ⟨s', rfl⟩⟩
    · obtain ⟨s9, ⟨x, rfl⟩, hp9, rfl⟩ := h9
      obtain ⟨ms, rfl, hms, hok⟩ : ∃ ms : Str, v = .str ms ∧ ms ∈ measL ∧ (ms = "new" ∨ ms = "old" ∨ ms = "torn") := by
        have hv : v = .str (Str.ofString "new") ∨ v = .str (Str.ofString "old") ∨ v = .str (Str.ofString "torn") := by simpa using List.mem_of_getElem? hi
        rcases hv with rfl | rfl | rfl
        · exact ⟨_, rfl, by simp [measL], .inl rfl⟩
        · exact ⟨_, rfl, by simp [measL], .inr (.inl rfl)⟩
        · exact ⟨_, rfl, by simp [measL], .inr (.inr rfl)⟩
      walk_at "rd"
      refine use_ord (W2.same s9) f2.G b2 here2 hms fun ys2 o2 q1 H10 n10 s10 e10 => use_ord (W.same (s9.trans s10)) f.G b1 here1 hms fun ys1 o1 q2 H11 n11 s11 e11 => ?_
      rw [rp2] at o2
      rw [e2] at o2
      have ey : ys2 = ys1 := (ord_map tw_turn (.inr hok) o2).eq o1
      rw [ey] at e10
      refine use_neL (s11 _ _ e10) e11 ⟨_, rfl, iteF ?_⟩
      exact nx _ _ ⟨s9.trans (s10.trans s11), ⟨_, rfl⟩, (s10.trans s11).seq hp9, rfl⟩
    · obtain ⟨s9, ⟨x, rfl⟩, hp9, rfl⟩ := h9
      walk_at "rd"
      refine forP (fun p l H' => Same H9 H' ∧ l = measL6) (fun R h => ?_)
        (fun p l i σ' H' => Same H H' ∧ (∃ v, σ' = [some (V.ref L.p), some (V.ref L2.p), some (V.ref L3.p), some (V.int n), some (V.int r.ups), some (V.int r.downs), some (V.str r.who), some (V.int r.under), some (tellV r), some (V.int r.time), v]) ∧ SqL K H' p l ∧ l = measL6)
        (fun p l H' hp g => ⟨s9.trans g.1, ⟨_, rfl⟩, hp, g.2⟩) (fun p l i σ' H' h => h.2.2.1) (fun p l i v σ' H10 D' hi h10 nx rt => ?_) (fun p l σ' H10 h10 => ?_)
      · walk_at "rd"
        exact ⟨by omega, fun p H' n' s' e' => h p _ H' (SqL.of e') ⟨s', rfl⟩⟩
      · obtain ⟨s10, ⟨x, rfl⟩, hp10, rfl⟩ := h10
        obtain ⟨ms, rfl, hms⟩ : ∃ ms : Str, v = .str ms ∧ ms ∈ measL := by
          have hv := List.mem_of_getElem? hi
          simp only [measL6, List.mem_cons, List.not_mem_nil, or_false] at hv
          rcases hv with rfl | rfl | rfl | rfl | rfl | rfl <;> exact ⟨_, rfl, by simp [measL]⟩
        walk_at "rd"
        refine use_ord (W3.same s10) f3.G b3 here3 hms fun ys3 o3 q1 H11 n11 s11 e11 => use_ord (W.same (s10.trans s11)) f.G b1 here1 hms fun ys1 o1 q2 H12 n12 s12 e12 => ?_
        rw [rp3] at o3
        rw [e3] at o3
        have ey : ys3 = ys1 := (ord_map tw_name (.inl rfl) o3).eq o1
        rw [ey] at e11
        refine use_neL (s12 _ _ e11) e12 ⟨_, rfl, iteF ?_⟩
        exact nx _ _ ⟨s10.trans (s11.trans s12), ⟨_, rfl⟩, (s11.trans s12).seq hp10, rfl⟩
      · obtain ⟨s10, ⟨x, rfl⟩, hp10, rfl⟩ := h10
        walk_at "rd"
        have bn2 : beneathR L2.rows n = beneathR L.rows n := by
          rw [show L2.rows = mapRs id (-1) L.rows from congrArg Wd.rows e2, beneath_map]
        have bn3 : beneathR L3.rows n = beneathR L.rows n := by
          rw [show L3.rows = mapRs nameS 1 L.rows from congrArg Wd.rows e3, beneath_map]
        have mn3 : manyR L3.rows n = manyR L.rows n := by
          rw [show L3.rows = mapRs nameS 1 L.rows from congrArg Wd.rows e3, many_map]
        refine ⟨_, _, (W.same s10).top, fw_no _ _ _ (by decide) (by decide) (by decide), use_below (W.same s10) f.G here1 fun q1 H11 n11 s11 e11 => ⟨_, _, (W2.same (s10.trans s11)).top, fw_no _ _ _ (by decide) (by decide) (by decide), use_below (W2.same (s10.trans s11)) f2.G here2 fun q2 H12 n12 s12 e12 => ?_⟩⟩
        rw [bn2] at e12
        have s012 := s10.trans (s11.trans s12)
        refine use_eqL (s12 _ _ e11) e12 ⟨_, rfl, iteT ⟨_, _, (W3.same s012).top, fw_no _ _ _ (by decide) (by decide) (by decide), use_below (W3.same s012) f3.G here3 fun q3 H13 n13 s13 e13 => ?_⟩⟩
        rw [bn3] at e13
        have s013 := s012.trans s13
        refine use_eqL (s13 _ _ e12) e13 ⟨_, rfl, iteT ⟨_, _, (W.same s013).top, fw_no _ _ _ (by decide) (by decide) (by decide), use_many (W.same s013) f.G here1 fun H14 s14 => ⟨_, _, (W3.same (s013.trans s14)).top, fw_no _ _ _ (by decide) (by decide) (by decide), use_many (W3.same (s013.trans s14)) f3.G here3 fun H15 s15 => ?_⟩⟩⟩
        rw [mn3]
        exact ⟨rfl, by rw [decide_eq_true rfl]; exact k H15 (s013.trans (s14.trans s15))⟩
end
end Vw
namespace Vw
open PySem PySem.Spec PyProof.Rows L2
local macro_rules | `(tactic| walk_at "rd") => `(tactic| simp only [tSeq, tNext, tIfS, tAsg, tRet, tRetN, tDrop, tVar, tC, tOp, tUn, tTest, tB, tAnd, tOr, tNot, tAndV, tOrV, tNotV, tIf, tChain, tCB, tCons, tNil, tCall, tMeth, tMake, tFld, sFld, tTup, tLst, tTupS, tLstS, tDNewKS, tDNewTS, tTold, tCmp, t2I, tIsN, tNotN, tPar, gName, gNil, gCons, gTup, gSub, rI0, rU, rEq, rNe, tDGet, tDIn, tDNotIn, sDPut, tDNewK, tDGet1, tDGet2, tDPop1, tDPop2, tBM, tBM0, tM0, tM1, tSl, tPart, tNoPart, tBreak, tCont, tThru, L2.start, List.map_cons, List.map_nil, List.length_cons, List.length_nil, List.cons_append, List.nil_append, List.append_nil, List.replicate_succ, List.replicate_zero, Nat.reduceAdd, Nat.reduceSub, Nat.zero_add, List.getElem?_cons_zero, List.getElem?_cons_succ, List.set_cons_zero, List.set_cons_succ, wipe, cxOf_K, tYes, List.cons.injEq, and_self, Option.some.injEq, V.int.injEq, V.bl.injEq, V.ref.injEq, V.str.injEq, exists_eq_left', exists_eq_left, exists_and_left, and_assoc, true_and, and_true, if_true, if_false, ite_true, ite_false, Bool.not_true, Bool.not_false, Bool.false_eq_true, reduceIte])
theorem ps_dead {X : Cx} {st : Stmt} : PS X st (fun _ _ _ => False) := ⟨fun _ _ _ _ _ _ h => h.elim⟩
/-- lists stand at these places -/
abbrev LstsAt (H : Hp) (qs : List Addr) (nss : List (List Int)) : Prop := Paired (fun q ns => H q = some (.lst (ns.map V.int))) qs nss
/-- a comprehension whose elements are new lists -/
theorem lcNew {K : PySem.W.Frag} {te0 : TE} {g : TG} {tt : TT} {te : TE} {vs : List Nat} {σ : L2.St} {H : Hp} {Q : VK} {α : Type} {l : List α} (it : α → V) (f : α → List V) (src : ∀ R : VK, (∀ p H1, Same H H1 → SqL K H1 p (l.map it) → R (.ref p) H1) → te0 σ H R) (hn : l.length < sizeLine)
    (hs : ∀ a H' (N1 : V → Hp → Prop) (N0 : Hp → Prop), a ∈ l → Same H H' → (∀ q H4, H' q = none → Same H' H4 → H4 q = some (.lst (f a)) → N1 (.ref q) H4) → g (it a) (wipe σ vs) H' fun σ2 H2 => wipe σ2 vs = wipe σ vs ∧ tt σ2 H2 fun b H3 => if b = true then te σ2 H3 N1 else N0 H3)
    (hd : ∀ D H' qs, H D = none → Same H H' → H' D = some (.lst (qs.map V.ref)) → Paired (fun q a => H' q = some (.lst (f a)) ∧ H q = none ∧ q ≠ D) qs l → Q (.ref D) H') : tLc (iList K te0) g tt te vs σ H Q := by
  refine src _ fun p H1 s1 hp => ⟨p, rfl, ⟨_, hp⟩, fun D hD => ?_⟩
  have w : Walk (Itl K p) l.length (fun H => SqL K H p (l.map it)) (YAt (l.map it)) := by
    have w := walk_list (K := K) (a := p) (xs := l.map it)
    rw [List.length_map] at w
    exact w
  have new : ∀ {H : Hp} {o : HO}, Same H1 H → Same H1 (upd H D o) := fun {H o} s b u e => by
    rw [upd_ne (ne_of_none e hD)]
    exact s b u e
  refine lc_it w (fun i H2 => Same H1 H2 ∧ ∃ qs : List Addr, H2 D = some (.lst (qs.map V.ref)) ∧ Paired (fun q a => H2 q = some (.lst (f a)) ∧ H q = none ∧ q ≠ D) qs (l.take i)) ⟨new (Same.refl _), [], by rw [upd_same]; rfl, by rw [List.take_zero]; exact .nil⟩ (fun i H _ p => p.1.seq hp) (fun i x H2 H3 hi p2 y => ?_) (fun H2 p2 => ?_)
  · obtain ⟨rfl, hx⟩ := y
    obtain ⟨a, ha⟩ : ∃ a, l[i]? = some a := ⟨l[i], by simp [hi]⟩
    have e : x = it a := by
      rw [List.getElem?_map, ha] at hx
      exact (Option.some.inj hx).symm
    subst e
    obtain ⟨s2, qs, eD, tq⟩ := p2
    refine hs a _ _ _ (List.mem_of_getElem? ha) (s1.trans s2) fun q H4 nq s4 eq => ⟨_, s4 _ _ eD, ?_, new (s2.trans s4), qs ++ [q], ?_, ?_⟩
    · have h2 : (l.take i).length ≤ l.length := by rw [List.length_take]; omega
      have h3 := Paired.length tq
      rw [List.length_map]
      omega
    · rw [upd_same, List.map_append]
      rfl
    · have qD : q ≠ D := fun z => by rw [z, eD] at nq; cases nq
      rw [List.take_succ, ha]
      refine Paired.app (Paired.imp (fun b c h => ⟨?_, h.2⟩) tq) (.cons ⟨by rw [upd_ne qD]; exact eq, s1.free (s2.free nq), qD⟩ .nil)
      rw [upd_ne h.2.2]
      exact s4 _ _ h.1
  · obtain ⟨s2, qs, eD, tq⟩ := p2
    rw [List.take_length] at tq
    exact hd D H2 qs (s1.free hD) (s1.trans s2) eD tq
theorem dp_lists {K : PySem.W.Frag} {H : Hp} {p : Addr} {xs : List (Addr × List Int)} (h : SqL K H p (xs.map fun x => V.ref x.1)) (hx : ∀ x ∈ xs, SqL K H x.1 (x.2.map V.int)) : Dp K H (.ref p) (.list (xs.map fun x => .list (x.2.map PyData.int))) := by
  refine .lst h ?_
  clear h
  induction xs with
  | nil => exact .nil
  | cons x t ih => exact .cons (.lst (hx x List.mem_cons_self) (dps_ints _)) (ih fun y hy => hx y (List.mem_cons_of_mem _ hy))
section
variable {P : Program} {w : World} {K : PySem.W.Frag} {mg : Str → Option Value} {base : Heap}
/-! ### copies -/
def spCopy0 : Sp := fun vs H Q _ => ∃ i : Int, vs = [.int i] ∧ Q (.int i) H
def spCopy1 (K : PySem.W.Frag) : Sp := fun vs H Q _ => ∃ (p : Addr) (ns : List Int), vs = [.ref p] ∧ SqL K H p (ns.map V.int) ∧ ns.length < 1000 ∧ New (.lst (ns.map V.int)) H Q
def spCopy2 (K : PySem.W.Frag) : Sp := fun vs H Q _ => ∃ (p : Addr) (xs : List (Addr × List Int)), vs = [.ref p] ∧ SqL K H p (xs.map fun x => V.ref x.1) ∧ (∀ x ∈ xs, SqL K H x.1 (x.2.map V.int) ∧ x.2.length < 1000) ∧ xs.length < 1000 ∧
  ∀ q H' qs, H q = none → Same H H' → H' q = some (.lst (qs.map V.ref)) → Paired (fun a (x : Addr × List Int) => H' a = some (.lst (x.2.map V.int)) ∧ H a = none ∧ a ≠ q) qs xs → Q (.ref q) H'
abbrev N__law_copy : List Str := ["thing", "one", "name"]
theorem sc__law_copy : FnScope N__law_copy ["thing"] (defScope s__law_copy) := ⟨rfl, rfl, rfl, by decide +kernel, rfl, by decide +kernel, by decide +kernel⟩
theorem be__law_copy : BindEq "_law_copy" "_law_copy" s__law_copy ["thing"] := fun _ _ _ _ _ _ us hl => match us, hl with | [_], _ => rfl
theorem D_copy_none (T : Txt K mg base) : Def P w K mg base 1 (He.ga K "_law_copy") ["thing"] (fun _ _ _ _ => False) := mk_def T.f__law_copy sc__law_copy be__law_copy (fun _ _ _ _ h => h.elim) (fun _ _ _ _ _ _ _ _ _ h => h.elim)
theorem D__law_copy0 (T : Txt K mg base) : Def P w K mg base 2 (He.ga K "_law_copy") ["thing"] spCopy0 := by
  have D__law_copy : Txt K mg base → Def P w K mg base 1 (He.ga K "_law_copy") ["thing"] (fun _ _ _ _ => False) := D_copy_none
  refine mk_def T.f__law_copy sc__law_copy be__law_copy (fun vs H Q E h => ?_) (fun cdv A outer s H vs Q E hr h => ?_)
  · obtain ⟨i, rfl, _⟩ := h
    rfl
  · obtain ⟨i, rfl, k⟩ := h
    refine ⟨_, (pss_cons (ps_if (pt_val (pe_callB call_isi (by rfl) T.b_isinstance (by decide +kernel) (pa_cons (pv 0) (pa_cons (pe_bltn (v := .ty "list") (by rfl) T.b_list (by decide +kernel) rfl) pa_nil)))) (pss_one (ps_ret (pe_lc (own := [("one", 1)]) (g := gName 1) rfl sc__law_copy.nd (pi_list (pv 0)) (blkOk_by (N := N__law_copy) (sc := defScope s__law_copy) (by decide +kernel)) (fun _ _ _ _ _ => by exact (pg_name (i := 1) sc__law_copy.nd rfl (Or.inl rfl))) (fun _ _ _ _ _ => pts_nil) (fun _ _ _ _ _ => by exact (pe_cd (D__law_copy T) (by exact hr.mono (by first | decide | omega)) T.g__law_copy passF (pa_cons (pv 1) pa_nil)))))) pss_nil)
      (pss_cons (ps_if (pt_val (pe_callB call_isi (by rfl) T.b_isinstance (by decide +kernel) (pa_cons (pv 0) (pa_cons (pe_bltn (v := .ty "tuple") (by rfl) T.b_tuple (by decide +kernel) rfl) pa_nil)))) (pss_one ps_dead) pss_nil)
      (pss_cons (ps_if (pt_val (pe_callB call_isi (by rfl) T.b_isinstance (by decide +kernel) (pa_cons (pv 0) (pa_cons (pe_bltn (v := .ty "dict") (by rfl) T.b_dict (by decide +kernel) rfl) pa_nil)))) (pss_one ps_dead) pss_nil)
      (pss_one (ps_ret (pv 0)))))), ?_⟩
    walk_at "rd"
    refine use_isi (.int i) (show kitB "int" "list" = some false by decide +kernel) ⟨_, rfl, iteF (use_isi (.int i) (show kitB "int" "tuple" = some false by decide +kernel) ⟨_, rfl, iteF (use_isi (.int i) (show kitB "int" "dict" = some false by decide +kernel) ⟨_, rfl, iteF k⟩)⟩)⟩
theorem dp_list {H : Hp} {p : Addr} {ns : List Int} (h : SqL K H p (ns.map V.int)) : Dp K H (.ref p) (.list (ns.map PyData.int)) := .lst h (dps_ints ns)
theorem D__law_copy1 (T : Txt K mg base) : Def P w K mg base 3 (He.ga K "_law_copy") ["thing"] (spCopy1 K) := by
  have D__law_copy : Txt K mg base → Def P w K mg base 2 (He.ga K "_law_copy") ["thing"] spCopy0 := D__law_copy0
  refine mk_def T.f__law_copy sc__law_copy be__law_copy (fun vs H Q E h => ?_) (fun cdv A outer s H vs Q E hr h => ?_)
  · obtain ⟨p, ns, rfl, _⟩ := h
    rfl
  · obtain ⟨p, ns, rfl, hp, hl, k⟩ := h
    refine ⟨_, (pss_cons (ps_if (pt_val (pe_callB call_isi (by rfl) T.b_isinstance (by decide +kernel) (pa_cons (pv 0) (pa_cons (pe_bltn (v := .ty "list") (by rfl) T.b_list (by decide +kernel) rfl) pa_nil)))) (pss_one (ps_ret (pe_lc (own := [("one", 1)]) (g := gName 1) rfl sc__law_copy.nd (pi_list (pv 0)) (blkOk_by (N := N__law_copy) (sc := defScope s__law_copy) (by decide +kernel)) (fun _ _ _ _ _ => by exact (pg_name (i := 1) sc__law_copy.nd rfl (Or.inl rfl))) (fun _ _ _ _ _ => pts_nil) (fun _ _ _ _ _ => by exact (pe_cd (D__law_copy T) (by exact hr.mono (by first | decide | omega)) T.g__law_copy passF (pa_cons (pv 1) pa_nil)))))) pss_nil)
      (pss_cons (ps_if (pt_val (pe_callB call_isi (by rfl) T.b_isinstance (by decide +kernel) (pa_cons (pv 0) (pa_cons (pe_bltn (v := .ty "tuple") (by rfl) T.b_tuple (by decide +kernel) rfl) pa_nil)))) (pss_one ps_dead) pss_nil)
      (pss_cons (ps_if (pt_val (pe_callB call_isi (by rfl) T.b_isinstance (by decide +kernel) (pa_cons (pv 0) (pa_cons (pe_bltn (v := .ty "dict") (by rfl) T.b_dict (by decide +kernel) rfl) pa_nil)))) (pss_one ps_dead) pss_nil)
      (pss_one (ps_ret (pv 0)))))), ?_⟩
    walk_at "rd"
    have z9 : (1000 : Nat) < sizeLine := by rw [sizeLine_eq]; omega
    refine use_isi (dp_list hp) (show kitB "list" "list" = some true by decide +kernel) ⟨_, rfl, iteT ?_⟩
    refine lcL (l := ns) V.int (fun n => some (.int n)) (fun R h => ?_) (by omega) (fun n H1 hn s1 N1 N0 q1 q0 => ?_) (fun D H1 nD s1 eD => ?_)
    · walk_at "rd"
      exact h p H (Same.refl _) hp
    · walk_at "rd"
      exact ⟨n, rfl, q1 _ _ (Same.refl _) rfl⟩
    · rw [List.filterMap_eq_map'] at eD
      exact k D H1 nD s1 eD
theorem D__law_copy2 (T : Txt K mg base) : Def P w K mg base 4 (He.ga K "_law_copy") ["thing"] (spCopy2 K) := by
  have D__law_copy : Txt K mg base → Def P w K mg base 3 (He.ga K "_law_copy") ["thing"] (spCopy1 K) := D__law_copy1
  refine mk_def T.f__law_copy sc__law_copy be__law_copy (fun vs H Q E h => ?_) (fun cdv A outer s H vs Q E hr h => ?_)
  · obtain ⟨p, xs, rfl, _⟩ := h
    rfl
  · obtain ⟨p, xs, rfl, hp, hx, hl, k⟩ := h
    refine ⟨_, (pss_cons (ps_if (pt_val (pe_callB call_isi (by rfl) T.b_isinstance (by decide +kernel) (pa_cons (pv 0) (pa_cons (pe_bltn (v := .ty "list") (by rfl) T.b_list (by decide +kernel) rfl) pa_nil)))) (pss_one (ps_ret (pe_lc (own := [("one", 1)]) (g := gName 1) rfl sc__law_copy.nd (pi_list (pv 0)) (blkOk_by (N := N__law_copy) (sc := defScope s__law_copy) (by decide +kernel)) (fun _ _ _ _ _ => by exact (pg_name (i := 1) sc__law_copy.nd rfl (Or.inl rfl))) (fun _ _ _ _ _ => pts_nil) (fun _ _ _ _ _ => by exact (pe_cd (D__law_copy T) (by exact hr.mono (by first | decide | omega)) T.g__law_copy passF (pa_cons (pv 1) pa_nil)))))) pss_nil)
      (pss_cons (ps_if (pt_val (pe_callB call_isi (by rfl) T.b_isinstance (by decide +kernel) (pa_cons (pv 0) (pa_cons (pe_bltn (v := .ty "tuple") (by rfl) T.b_tuple (by decide +kernel) rfl) pa_nil)))) (pss_one ps_dead) pss_nil)
      (pss_cons (ps_if (pt_val (pe_callB call_isi (by rfl) T.b_isinstance (by decide +kernel) (pa_cons (pv 0) (pa_cons (pe_bltn (v := .ty "dict") (by rfl) T.b_dict (by decide +kernel) rfl) pa_nil)))) (pss_one ps_dead) pss_nil)
      (pss_one (ps_ret (pv 0)))))), ?_⟩
    walk_at "rd"
    have z9 : (1000 : Nat) < sizeLine := by rw [sizeLine_eq]; omega
    refine use_isi (dp_lists hp fun x h => (hx x h).1) (show kitB "list" "list" = some true by decide +kernel) ⟨_, rfl, iteT ?_⟩
    refine lcNew (l := xs) (fun x => V.ref x.1) (fun x => x.2.map V.int) (fun R h => ?_) (by omega) (fun x H1 N1 N0 hxm s1 q1 => ?_) (fun D H1 qs nD s1 eD t => k D H1 qs nD s1 eD t)
    · walk_at "rd"
      exact h p H (Same.refl _) hp
    · walk_at "rd"
      exact ⟨x.1, x.2, rfl, s1.seq (hx x hxm).1, (hx x hxm).2, fun q H2 n2 s2 e2 => q1 q H2 n2 s2 e2⟩
/-! ### what is told is spoilt -/
theorem use_isiT {H : Hp} {x : V} {t : String} {tp : Addr} {b1 b2 : Bool} {Q : VK} (hx : TyX K H x (.type t)) (e : H tp = some (.tup [.ty "list", .ty "tuple"])) (h1 : kitB t "list" = some b1) (h2 : kitB t "tuple" = some b2) (q : Q (.bl (b1 || b2)) H) : rIsiT K [x, .ref tp] H Q := by
  refine ⟨x, tp, _, _, [.type "list", .type "tuple"], b1 || b2, rfl, e, .cons (.ty _) (.cons (.ty _) .nil), hx, ?_, q⟩
  show (match PySem.W.kitOne K (.type t) (.type "list") with
    | some true => some true
    | some false => PySem.W.kitAny K (.type t) [.type "tuple"]
    | none => none) = _
  rw [kit_ty h1]
  cases b1 with
  | true => rfl
  | false =>
    show (match PySem.W.kitOne K (.type t) (.type "tuple") with
      | some true => some true
      | some false => PySem.W.kitAny K (.type t) []
      | none => none) = _
    rw [kit_ty h2]
    cases b2 <;> rfl
theorem use_isiV {H : Hp} {x : V} {t c : String} {b : Bool} {Q : VK} (hx : TyX K H x (.type t)) (hb : kitB t c = some b) (q : Q (.bl b) H) : rIsi K [x, .ty c] H Q := ⟨x, .ty c, _, _, b, rfl, .ty c, hx, kit_ty hb, q⟩
theorem list_ty {H : Hp} {p : Addr} {l : List V} (h : H p = some (.lst l)) : TyX K H (.ref p) (.type "list") := .base (.lst h)
def spSpoil0 : Sp := fun vs H Q _ => ∃ i : Int, vs = [.int i] ∧ ∀ H', Same H H' → Q .non H'
def spSpoil1 : Sp := fun vs H Q _ => ∃ (p : Addr) (ns : List Int), vs = [.ref p] ∧ H p = some (.lst (ns.map V.int)) ∧ ns.length < 1000 ∧ ∀ H' xs, (∀ b o, b ≠ p → H b = some o → H' b = some o) → H' p = some (.lst xs) → Q .non H'
def spSpoil2 : Sp := fun vs H Q _ => ∃ (p : Addr) (xs : List (Addr × List Int)), vs = [.ref p] ∧ H p = some (.lst (xs.map fun x => V.ref x.1)) ∧ (∀ x ∈ xs, H x.1 = some (.lst (x.2.map V.int)) ∧ x.2.length < 1000 ∧ x.1 ≠ p) ∧ (xs.map (·.1)).Nodup ∧ xs.length < 1000 ∧
  ∀ H', (∀ b o, b ≠ p → b ∉ xs.map (·.1) → H b = some o → H' b = some o) → Q .non H'
abbrev N__law_spoil : List Str := ["thing", "one"]
theorem sc__law_spoil : FnScope N__law_spoil ["thing"] (defScope s__law_spoil) := ⟨rfl, rfl, rfl, by decide +kernel, rfl, by decide +kernel, by decide +kernel⟩
theorem be__law_spoil : BindEq "_law_spoil" "_law_spoil" s__law_spoil ["thing"] := fun _ _ _ _ _ _ us hl => match us, hl with | [_], _ => rfl
theorem D_spoil_none (T : Txt K mg base) : Def P w K mg base 1 (He.ga K "_law_spoil") ["thing"] (fun _ _ _ _ => False) := mk_def T.f__law_spoil sc__law_spoil be__law_spoil (fun _ _ _ _ h => h.elim) (fun _ _ _ _ _ _ _ _ _ h => h.elim)
theorem D__law_spoil0 (T : Txt K mg base) : Def P w K mg base 2 (He.ga K "_law_spoil") ["thing"] spSpoil0 := by
  have D__law_spoil : Txt K mg base → Def P w K mg base 1 (He.ga K "_law_spoil") ["thing"] (fun _ _ _ _ => False) := D_spoil_none
  refine mk_def T.f__law_spoil sc__law_spoil be__law_spoil (fun vs H Q E h => ?_) (fun cdv A outer s H vs Q E hr h => ?_)
  · obtain ⟨i, rfl, _⟩ := h
    rfl
  · obtain ⟨i, rfl, k⟩ := h
    refine ⟨_, (C8.pss_cut (ps_if (pt_val (pe_callB call_isiT (by rfl) T.b_isinstance (by decide +kernel) (pa_cons (pv 0) (pa_cons (pe_tupS (pa_cons (pe_bltn (v := .ty "list") (by rfl) T.b_list (by decide +kernel) rfl) (pa_cons (pe_bltn (v := .ty "tuple") (by rfl) T.b_tuple (by decide +kernel) rfl) pa_nil))) pa_nil)))) (pss_one (ps_for ownE rfl (pi_list (pv 0)) (pg_name (i := 1) sc__law_spoil.nd rfl (Or.inl rfl))
      (pss_one (ps_expr (pe_cd (D__law_spoil T) (by exact hr.mono (by first | decide | omega)) T.g__law_spoil passE (pa_cons (pv 1) pa_nil)))))) pss_nil)
      (C8.pss_cut (ps_if (pt_val (pe_callB call_isi (by rfl) T.b_isinstance (by decide +kernel) (pa_cons (pv 0) (pa_cons (pe_bltn (v := .ty "list") (by rfl) T.b_list (by decide +kernel) rfl) pa_nil)))) (pss_one (ps_expr (pe_bm PySem.F.plainAttrs_list PySem.F.slot_list_append PySem.F.type_list_append mt_append (pv 0) (pa_cons pe_str pa_nil)))) pss_nil)
      (pss_one (ps_if (pt_val (pe_callB call_isi (by rfl) T.b_isinstance (by decide +kernel) (pa_cons (pv 0) (pa_cons (pe_bltn (v := .ty "dict") (by rfl) T.b_dict (by decide +kernel) rfl) pa_nil)))) (pss_one ps_dead) pss_nil)))), ?_⟩
    walk_at "rd"
    have z9 : (1000 : Nat) < sizeLine := by rw [sizeLine_eq]; omega
    have ti : ∀ {H : Hp}, TyX K H (.int i) (.type "int") := .base (.int i)
    refine ⟨fun σ' H' => Same H H' ∧ σ' = [some (.int i), none], ?_, ?_⟩
    · walk_at "rd"
      exact ⟨by omega, fun tp H1 n1 s1 e1 => use_isiT ti e1 (show kitB "int" "list" = some false by decide +kernel) (show kitB "int" "tuple" = some false by decide +kernel) ⟨_, rfl, iteF s1⟩⟩
    rintro σ1 H1 ⟨s1, rfl⟩
    refine ⟨fun σ' H' => Same H H' ∧ σ' = [some (.int i), none], ?_, ?_⟩
    · walk_at "rd"
      exact use_isiV ti (show kitB "int" "list" = some false by decide +kernel) ⟨_, rfl, iteF s1⟩
    rintro σ1 H2 ⟨s2, rfl⟩
    walk_at "rd"
    exact use_isiV ti (show kitB "int" "dict" = some false by decide +kernel) ⟨_, rfl, iteF (k _ s2)⟩
theorem D__law_spoil1 (T : Txt K mg base) : Def P w K mg base 3 (He.ga K "_law_spoil") ["thing"] spSpoil1 := by
  have D__law_spoil : Txt K mg base → Def P w K mg base 2 (He.ga K "_law_spoil") ["thing"] spSpoil0 := D__law_spoil0
  refine mk_def T.f__law_spoil sc__law_spoil be__law_spoil (fun vs H Q E h => ?_) (fun cdv A outer s H vs Q E hr h => ?_)
  · obtain ⟨p, ns, rfl, _⟩ := h
    rfl
  · obtain ⟨p, ns, rfl, hp, hl, k⟩ := h
    refine ⟨_, (C8.pss_cut (ps_if (pt_val (pe_callB call_isiT (by rfl) T.b_isinstance (by decide +kernel) (pa_cons (pv 0) (pa_cons (pe_tupS (pa_cons (pe_bltn (v := .ty "list") (by rfl) T.b_list (by decide +kernel) rfl) (pa_cons (pe_bltn (v := .ty "tuple") (by rfl) T.b_tuple (by decide +kernel) rfl) pa_nil))) pa_nil)))) (pss_one (ps_for ownE rfl (pi_list (pv 0)) (pg_name (i := 1) sc__law_spoil.nd rfl (Or.inl rfl))
      (pss_one (ps_expr (pe_cd (D__law_spoil T) (by exact hr.mono (by first | decide | omega)) T.g__law_spoil passE (pa_cons (pv 1) pa_nil)))))) pss_nil)
      (C8.pss_cut (ps_if (pt_val (pe_callB call_isi (by rfl) T.b_isinstance (by decide +kernel) (pa_cons (pv 0) (pa_cons (pe_bltn (v := .ty "list") (by rfl) T.b_list (by decide +kernel) rfl) pa_nil)))) (pss_one (ps_expr (pe_bm PySem.F.plainAttrs_list PySem.F.slot_list_append PySem.F.type_list_append mt_append (pv 0) (pa_cons pe_str pa_nil)))) pss_nil)
      (pss_one (ps_if (pt_val (pe_callB call_isi (by rfl) T.b_isinstance (by decide +kernel) (pa_cons (pv 0) (pa_cons (pe_bltn (v := .ty "dict") (by rfl) T.b_dict (by decide +kernel) rfl) pa_nil)))) (pss_one ps_dead) pss_nil)))), ?_⟩
    walk_at "rd"
    have z9 : (1001 : Nat) < sizeLine := by rw [sizeLine_eq]; omega
    refine ⟨fun σ' H' => Same H H' ∧ ∃ v, σ' = [some (.ref p), v], ?_, ?_⟩
    · walk_at "rd"
      refine ⟨by omega, fun tp H1 n1 s1 e1 => use_isiT (list_ty (s1 _ _ hp)) e1 (show kitB "list" "list" = some true by decide +kernel) (show kitB "list" "tuple" = some false by decide +kernel) ⟨_, rfl, iteT ?_⟩⟩
      refine forL2 (l := ns) V.int (fun R h => ?_) (fun q i σ' H' => q = q ∧ Same H H' ∧ SqL K H' q (ns.map V.int) ∧ ∃ v, σ' = [some (.ref p), v]) (fun q H2 s2 hq => ?_) (fun q i σ' H' _ h => ?_) (fun q i n σ' H2 D' hi h2 nx ct rt bk => ?_) (fun q σ' H2 h2 => ?_)
      · walk_at "rd"
        exact h p H1 (Same.refl _) (SqL.of (s1 _ _ hp))
      · exact ⟨rfl, s1.trans s2, hq, _, rfl⟩
      · exact h.2.2.1
      · obtain ⟨_, s2, hq, v, rfl⟩ := h2
        walk_at "rd"
        exact ⟨n, rfl, fun H3 s3 => nx _ _ ⟨rfl, s2.trans s3, s3.seq hq, _, rfl⟩⟩
      · obtain ⟨_, s2, hq, v, rfl⟩ := h2
        walk_at "rd"
        exact ⟨s2, _, rfl⟩
    rintro σ1 H1 ⟨s1, v, rfl⟩
    refine ⟨fun σ' H' => (∀ b o, b ≠ p → H b = some o → H' b = some o) ∧ (∃ xs, H' p = some (.lst xs)) ∧ ∃ v, σ' = [some (.ref p), v], ?_, ?_⟩
    · walk_at "rd"
      have h1 := s1 _ _ hp
      refine use_isiV (list_ty h1) (show kitB "list" "list" = some true by decide +kernel) ⟨_, rfl, iteT ⟨.inl ⟨rfl, _, SqL.of h1⟩, p, _, _, rfl, rfl, h1, by rw [List.length_map]; omega, ?_⟩⟩
      exact ⟨fun b o hb e => by rw [upd_ne hb]; exact s1 _ _ e, ⟨_, upd_same⟩, _, rfl⟩
    rintro σ1 H2 ⟨kp, ⟨xs, e2⟩, v, rfl⟩
    walk_at "rd"
    exact use_isiV (list_ty e2) (show kitB "list" "dict" = some false by decide +kernel) ⟨_, rfl, iteF (k _ xs kp e2)⟩
theorem D__law_spoil2 (T : Txt K mg base) : Def P w K mg base 4 (He.ga K "_law_spoil") ["thing"] spSpoil2 := by
  have D__law_spoil : Txt K mg base → Def P w K mg base 3 (He.ga K "_law_spoil") ["thing"] spSpoil1 := D__law_spoil1
  refine mk_def T.f__law_spoil sc__law_spoil be__law_spoil (fun vs H Q E h => ?_) (fun cdv A outer s H vs Q E hr h => ?_)
  · obtain ⟨p, xs, rfl, _⟩ := h
    rfl
  · obtain ⟨p, xs, rfl, hp, hx, nd, hl, k⟩ := h
    refine ⟨_, (C8.pss_cut (ps_if (pt_val (pe_callB call_isiT (by rfl) T.b_isinstance (by decide +kernel) (pa_cons (pv 0) (pa_cons (pe_tupS (pa_cons (pe_bltn (v := .ty "list") (by rfl) T.b_list (by decide +kernel) rfl) (pa_cons (pe_bltn (v := .ty "tuple") (by rfl) T.b_tuple (by decide +kernel) rfl) pa_nil))) pa_nil)))) (pss_one (ps_for ownE rfl (pi_list (pv 0)) (pg_name (i := 1) sc__law_spoil.nd rfl (Or.inl rfl))
      (pss_one (ps_expr (pe_cd (D__law_spoil T) (by exact hr.mono (by first | decide | omega)) T.g__law_spoil passE (pa_cons (pv 1) pa_nil)))))) pss_nil)
      (C8.pss_cut (ps_if (pt_val (pe_callB call_isi (by rfl) T.b_isinstance (by decide +kernel) (pa_cons (pv 0) (pa_cons (pe_bltn (v := .ty "list") (by rfl) T.b_list (by decide +kernel) rfl) pa_nil)))) (pss_one (ps_expr (pe_bm PySem.F.plainAttrs_list PySem.F.slot_list_append PySem.F.type_list_append mt_append (pv 0) (pa_cons pe_str pa_nil)))) pss_nil)
      (pss_one (ps_if (pt_val (pe_callB call_isi (by rfl) T.b_isinstance (by decide +kernel) (pa_cons (pv 0) (pa_cons (pe_bltn (v := .ty "dict") (by rfl) T.b_dict (by decide +kernel) rfl) pa_nil)))) (pss_one ps_dead) pss_nil)))), ?_⟩
    walk_at "rd"
    have z9 : (1001 : Nat) < sizeLine := by rw [sizeLine_eq]; omega
    refine ⟨fun σ' H' => (∀ b o, b ∉ xs.map (·.1) → H b = some o → H' b = some o) ∧ ∃ v, σ' = [some (.ref p), v], ?_, ?_⟩
    · walk_at "rd"
      refine ⟨by omega, fun tp H1 n1 s1 e1 => use_isiT (list_ty (s1 _ _ hp)) e1 (show kitB "list" "list" = some true by decide +kernel) (show kitB "list" "tuple" = some false by decide +kernel) ⟨_, rfl, iteT ?_⟩⟩
      refine forP (fun q l H' => Same H1 H' ∧ q = p ∧ l = xs.map fun x => V.ref x.1) (fun R h => ?_)
        (fun q l i σ' H' => q = p ∧ l = (xs.map fun x => V.ref x.1) ∧ H' p = some (.lst (xs.map fun x => V.ref x.1)) ∧ (∀ b o, b ∉ (xs.take i).map (·.1) → H b = some o → H' b = some o) ∧ ∃ v, σ' = [some (.ref p), v])
        (fun q l H2 hq g => ⟨g.2.1, g.2.2, g.1 _ _ (s1 _ _ hp), fun b o _ e => g.1 _ _ (s1 _ _ e), _, rfl⟩) (fun q l i σ' H' h => ?_) (fun q l i v σ' H2 D' hi h2 nx rt => ?_) (fun q l σ' H2 h2 => ?_)
      · walk_at "rd"
        exact h p _ H1 (SqL.of (s1 _ _ hp)) ⟨Same.refl _, rfl, rfl⟩
      · obtain ⟨rfl, rfl, e, _⟩ := h
        exact SqL.of e
      · obtain ⟨rfl, rfl, e2, kp, v0, rfl⟩ := h2
        walk_at "rd"
        rw [List.getElem?_map] at hi
        cases hx' : xs[i]? with
        | none => rw [hx'] at hi; cases hi
        | some x =>
          rw [hx'] at hi
          cases hi
          have hm := List.mem_of_getElem? hx'
          have hlt : i < xs.length := (List.getElem?_eq_some_iff.mp hx').1
          have tk : xs.take (i + 1) = xs.take i ++ [x] := by rw [List.take_succ, hx']; rfl
          have nt : x.1 ∉ (xs.take i).map (·.1) := by
            have h3 : ((xs.take (i + 1)).map (·.1)).Nodup := nd.sublist ((List.take_sublist _ _).map _)
            rw [tk, List.map_append] at h3
            have := (List.nodup_append.mp h3).2.2
            exact fun z => this x.1 z x.1 (by simp) rfl
          refine ⟨x.1, x.2, rfl, kp _ _ nt (hx x hm).1, (hx x hm).2.1, fun H3 ys kp3 e3 => nx _ _ ⟨rfl, rfl, kp3 _ _ (fun z => (hx x hm).2.2 z.symm) e2, fun b o hb e => ?_, _, rfl⟩⟩
          rw [tk, List.map_append, List.mem_append] at hb
          exact kp3 b o (fun z => hb (.inr (by simp [z]))) (kp b o (fun z => hb (.inl z)) e)
      · obtain ⟨rfl, rfl, e2, kp, v0, rfl⟩ := h2
        walk_at "rd"
        refine ⟨fun b o hb e => kp b o (fun z => hb ?_) e, _, rfl⟩
        rw [List.length_map, List.take_length] at z
        exact z
    rintro σ1 H1 ⟨kp, v, rfl⟩
    have pn : p ∉ xs.map (·.1) := fun z => by
      obtain ⟨x, hm, e⟩ := List.mem_map.mp z
      exact (hx x hm).2.2 e
    refine ⟨fun σ' H' => (∀ b o, b ≠ p → b ∉ xs.map (·.1) → H b = some o → H' b = some o) ∧ (∃ ys, H' p = some (.lst ys)) ∧ ∃ v, σ' = [some (.ref p), v], ?_, ?_⟩
    · walk_at "rd"
      have h1 := kp _ _ pn hp
      refine use_isiV (list_ty h1) (show kitB "list" "list" = some true by decide +kernel) ⟨_, rfl, iteT ⟨.inl ⟨rfl, _, SqL.of h1⟩, p, _, _, rfl, rfl, h1, by rw [List.length_map]; omega, ?_⟩⟩
      exact ⟨fun b o hb hn e => by rw [upd_ne hb]; exact kp b o hn e, ⟨_, upd_same⟩, _, rfl⟩
    rintro σ1 H2 ⟨kp2, ⟨ys, e2⟩, v, rfl⟩
    walk_at "rd"
    exact use_isiV (list_ty e2) (show kitB "list" "dict" = some false by decide +kernel) ⟨_, rfl, iteF (k _ kp2)⟩
end
end Vw
namespace Vw
open PySem PySem.Spec PyProof.Rows L2 HotX
local macro_rules | `(tactic| walk_at "rd") => `(tactic| simp only [tSeq, tNext, tIfS, tAsg, tRet, tRetN, tDrop, tVar, tC, tOp, tUn, tTest, tB, tAnd, tOr, tNot, tAndV, tOrV, tNotV, tIf, tChain, tCB, tCons, tNil, tCall, tMeth, tMake, tFld, sFld, tTup, tLst, tTupS, tLstS, tDNewKS, tDNewTS, tTold, tCmp, t2I, tIsN, tNotN, tPar, gName, gNil, gCons, gTup, gSub, rI0, rU, rEq, rNe, tDGet, tDIn, tDNotIn, sDPut, tDNewK, tDGet1, tDGet2, tDPop1, tDPop2, tBM, tBM0, tM0, tM1, tSl, tPart, tNoPart, tBreak, tCont, tThru, L2.start, List.map_cons, List.map_nil, List.length_cons, List.length_nil, List.cons_append, List.nil_append, List.append_nil, List.replicate_succ, List.replicate_zero, Nat.reduceAdd, Nat.reduceSub, Nat.zero_add, List.getElem?_cons_zero, List.getElem?_cons_succ, List.set_cons_zero, List.set_cons_succ, wipe, cxOf_K, tYes, List.cons.injEq, and_self, Option.some.injEq, V.int.injEq, V.bl.injEq, V.ref.injEq, V.str.injEq, exists_eq_left', exists_eq_left, exists_and_left, and_assoc, true_and, and_true, if_true, if_false, ite_true, ite_false, Bool.not_true, Bool.not_false, Bool.false_eq_true, reduceIte])
/-- lists of numbers in a list, as data -/
def llD (nss : List (List Int)) : PyData := .list (nss.map fun ns => .list (ns.map PyData.int))
theorem can_ll : ∀ nss : List (List Int), PyData.canLayAll0 (nss.map fun ns => PyData.list (ns.map PyData.int)) = true
  | [] => rfl
  | ns :: r => by
    show (PyData.canLayAll0 (ns.map PyData.int) && PyData.canLayAll0 (r.map fun ns => PyData.list (ns.map PyData.int))) = true
    rw [canLay_ints, can_ll r]
    rfl
theorem depth_ll : ∀ nss : List (List Int), PyData.depthAll (nss.map fun ns => PyData.list (ns.map PyData.int)) ≤ 1
  | [] => Nat.zero_le _
  | ns :: r => by
    have ih := depth_ll r
    have h := depth_ints ns
    show max ((PyData.list (ns.map PyData.int)).depth) (PyData.depthAll (r.map fun ns => PyData.list (ns.map PyData.int))) ≤ 1
    have e : (PyData.list (ns.map PyData.int)).depth = PyData.depthAll (ns.map PyData.int) + 1 := rfl
    omega
theorem shaped_ll (nss : List (List Int)) : SeqAt.shaped (llD nss) = true := by
  unfold SeqAt.shaped llD
  have h := depth_ll nss
  have e : (PyData.list (nss.map fun ns => PyData.list (ns.map PyData.int))).depth = PyData.depthAll (nss.map fun ns => PyData.list (ns.map PyData.int)) + 1 := rfl
  rw [show (PyData.list (nss.map fun ns => PyData.list (ns.map PyData.int))).canLay0 = PyData.canLayAll0 (nss.map fun ns => PyData.list (ns.map PyData.int)) from rfl, can_ll, e, decide_eq_true (by omega)]
  rfl
theorem eqv_lls : ∀ nss : List (List Int), PyData.eqvAll (nss.map fun ns => PyData.list (ns.map PyData.int)) (nss.map fun ns => PyData.list (ns.map PyData.int)) = true
  | [] => rfl
  | ns :: r => by
    have ih := eqv_lls r
    have h := eqv_ints ns ns
    rw [decide_eq_true rfl] at h
    simp only [List.map_cons, PyData.eqvAll, Bool.and_eq_true]
    exact ⟨h, ih⟩
theorem eqv_ll (nss : List (List Int)) : PyData.eqv (llD nss) (llD nss) = true := by
  unfold llD
  simp only [PyData.eqv]
  exact eqv_lls nss
theorem dp_ll {K : PySem.W.Frag} {H : Hp} {p : Addr} {xs : List (Addr × List Int)} (h : H p = some (.lst (xs.map fun x => V.ref x.1))) (hx : ∀ x ∈ xs, H x.1 = some (.lst (x.2.map V.int))) : Dp K H (.ref p) (llD (xs.map (·.2))) := by
  have := dp_lists (K := K) (SqL.of h) fun x hm => SqL.of (hx x hm)
  unfold llD
  rw [List.map_map]
  exact this
theorem dp_due {K : PySem.W.Frag} {H : Hp} {d : Addr} {ds : List Addr} {xs : List (Addr × List Int)} (h : H d = some (.lst (ds.map V.ref))) (t : Paired (fun a (x : Addr × List Int) => H a = some (.lst (x.2.map V.int))) ds xs) : Dp K H (.ref d) (llD (xs.map (·.2))) := by
  refine .lst (SqL.of h) ?_
  clear h
  induction t with
  | nil => exact .nil
  | cons a t ih => exact .cons (.lst (SqL.of a) (dps_ints _)) ih
/-- a new list of new lists -/
structure NewLL (H H' : Hp) (q : Addr) (xs : List (Addr × List Int)) : Prop where
  s : Same H H'
  n : H q = none
  e : H' q = some (.lst (xs.map fun x => V.ref x.1))
  x : ∀ x ∈ xs, H' x.1 = some (.lst (x.2.map V.int)) ∧ H x.1 = none ∧ x.1 ≠ q
  nd : (xs.map (·.1)).Nodup
section
variable {P : Program} {w : World} {K : PySem.W.Frag} {mg : Str → Option Value} {base : Heap}
abbrev N__law_again : List Str := ["deed", "handed", "kept", "told", "due"]
theorem sc__law_again : FnScope N__law_again ["deed", "handed"] (defScope s__law_again) := ⟨rfl, rfl, rfl, by decide +kernel, rfl, by decide +kernel, by decide +kernel⟩
theorem be__law_again : BindEq "_law_again" "_law_again" s__law_again ["deed", "handed"] := fun _ _ _ _ _ _ us hl => match us, hl with | [_, _], _ => rfl
theorem again_body (T : Txt K mg base) {cdv : Value} {A : Around} {outer : List Env} {s : Shared} {H : Hp} {E : XK} (hr : Room 10 (A.deeper (envOfC "_law_again" (defScope s__law_again) s.heap.objs.size (He.ga K "_law_again") cdv))) {tb : TE}
    (hact : ∀ p1 p2, PE (cxN P w K mg base N__law_again "_law_again" (defScope s__law_again) (He.ga K "_law_again") cdv A outer s H E) (.Call (.Name "deed" p1) [] [] p2) tb) :
    ∃ t, PSs (cxN P w K mg base N__law_again "_law_again" (defScope s__law_again) (He.ga K "_law_again") cdv A outer s H E) (defBody s__law_again) t ∧
      ∀ (f h : Addr) (nss : List (List Int)) (Q : VK), H h = some (.lst []) → (∀ ns ∈ nss, ns.length < 1000) → nss.length < 1000 →
        (∀ (σ' : L2.St) H' (R : VK), Same H H' → σ'[0]? = some (some (.ref f)) → (∀ q xs H'', NewLL H' H'' q xs → xs.map (·.2) = nss → R (.ref q) H'') → tb σ' H' R) → (∀ H', Same H H' → Q (.bl true) H') →
        t { nx := fun _ H' => Q .non H', rt := Q } (L2.start N__law_again [.ref f, .ref h]) H := by
  refine ⟨_, (pss_cons (ps_set (i := 2) sc__law_again.nd rfl (Or.inl rfl) (pe_cd (D__law_copy1 T) (by exact hr.mono (by first | decide | omega)) T.g__law_copy passE (pa_cons (pv 1) pa_nil)))
      (pss_cons (ps_set (i := 3) sc__law_again.nd rfl (Or.inl rfl) (hact _ _))
      (pss_cons (ps_set (i := 4) sc__law_again.nd rfl (Or.inl rfl) (pe_cd (D__law_copy2 T) (by exact hr.mono (by first | decide | omega)) T.g__law_copy passE (pa_cons (pv 3) pa_nil)))
      (pss_cons (ps_expr (pe_cd (D__law_spoil2 T) (by exact hr.mono (by first | decide | omega)) T.g__law_spoil passE (pa_cons (pv 3) pa_nil)))
      (pss_cons (ps_if (pt_ned (pv 1) (pv 2) (by exact hr.units)) (pss_one (ps_ret pe_bl)) pss_nil)
      (pss_one (ps_ret (pe_and (pe_eqd (hact _ _) (pv 4) (by exact hr.units)) (pe_and (pe_eqd (hact _ _) (pv 4) (by exact hr.units)) (pe_one (pe_eqd (pv 1) (pv 2) (by exact hr.units)))))))))))), fun f h nss Q hh hn hl tell k => ?_⟩
  walk_at "rd"
  refine ⟨h, [], rfl, SqL.of hh, by decide, fun kp H1 n1 s1 e1 => ?_⟩
  have e1 : H1 kp = some (.lst []) := e1
  refine tell _ H1 _ s1 rfl fun q xs H2 N2 en => ?_
  have hxl : ∀ x ∈ xs, x.2.length < 1000 := fun x hx => hn x.2 (by rw [← en]; exact List.mem_map.mpr ⟨x, hx, rfl⟩)
  have xl : xs.length < 1000 := by
    have := congrArg List.length en
    rw [List.length_map] at this
    omega
  refine ⟨q, xs, rfl, SqL.of N2.e, fun x hx => ⟨SqL.of (N2.x x hx).1, hxl x hx⟩, xl, fun d H3 ds n3 s3 e3 t3 => ?_⟩
  refine ⟨q, xs, rfl, s3 _ _ N2.e, fun x hx => ⟨s3 _ _ (N2.x x hx).1, hxl x hx, (N2.x x hx).2.2⟩, N2.nd, xl, fun H4 kp4 => ?_⟩
  have keep : Same H1 H4 := fun b o e => kp4 b o (fun z => by rw [z, N2.n] at e; cases e) (fun z => by
    obtain ⟨x, hx, rfl⟩ := List.mem_map.mp z
    rw [(N2.x x hx).2.1] at e
    cases e) (s3 _ _ (N2.s _ _ e))
  have s4 := s1.trans keep
  have out : ∀ {a : Addr} {o : HO}, H2 a = none → H3 a = some o → H4 a = some o := fun {a o} n e => kp4 a o (fun z => by rw [z, N2.e] at n; cases n) (fun z => by
    obtain ⟨x, hx, rfl⟩ := List.mem_map.mp z
    rw [(N2.x x hx).1] at n
    cases n) e
  have ed := out n3 e3
  have t4 : Paired (fun a (x : Addr × List Int) => H4 a = some (.lst (x.2.map V.int))) ds xs := Paired.imp (fun a x z => out z.2.1 z.1) t3
  have due : ∀ {H'}, Same H4 H' → Dp K H' (.ref d) (llD nss) := fun {H'} s' => by
    rw [← en]
    exact dp_due (s' _ _ ed) (Paired.imp (fun a x z => s' _ _ z) t4)
  have emp : ∀ {H'}, Same H4 H' → Dp K H' (.ref h) (.list []) ∧ Dp K H' (.ref kp) (.list []) := fun {H'} s' => ⟨.lst (SqL.of (s' _ _ (s4 _ _ hh))) .nil, .lst (SqL.of (s' _ _ (keep _ _ e1))) .nil⟩
  refine use_neD (emp (Same.refl _)).1 (emp (Same.refl _)).2 rfl rfl ⟨_, rfl, iteF ?_⟩
  refine tell _ H4 _ s4 rfl fun q5 xs5 H5 N5 en5 => ?_
  have d5 := dp_ll (K := K) N5.e fun x hx => (N5.x x hx).1
  rw [en5] at d5
  refine use_eqD d5 (due N5.s) (shaped_ll _) (shaped_ll _) ⟨_, rfl, ?_⟩
  rw [eqv_ll]
  refine iteT (tell _ H5 _ (s4.trans N5.s) rfl fun q6 xs6 H6 N6 en6 => ?_)
  have d6 := dp_ll (K := K) N6.e fun x hx => (N6.x x hx).1
  rw [en6] at d6
  have s56 := N5.s.trans N6.s
  refine use_eqD d6 (due s56) (shaped_ll _) (shaped_ll _) ⟨_, rfl, ?_⟩
  rw [eqv_ll]
  exact iteT (use_eqD (emp s56).1 (emp s56).2 rfl rfl (k H6 (s4.trans s56)))
end
end Vw
namespace Vw
open PySem PySem.Spec PyProof.Rows L2 HotX
/-- again(lambda: body, []) -/
def tAgain (T : List (Addr × Str)) (t : TE) : TE := fun σ H Q => LamX.Tabs T H ∧ ∀ H1, LamX.ExtN H H1 → LamX.Tabs T H1 → ∃ nss : List (List Int), (∀ ns ∈ nss, ns.length < 1000) ∧ nss.length < 1000 ∧
  (∀ H' (R : VK), Same H1 H' → (∀ q xs H'', NewLL H' H'' q xs → xs.map (·.2) = nss → R (.ref q) H'') → t σ H' R) ∧ ∀ H', Same H1 H' → Q (.bl true) H'
theorem takesF {X : Cx} : L2N.Takes X (fun _ _ _ _ => False) := fun u s' x => by
  obtain ⟨a, B, sI, pins, σ, H, cls, d, e, I, nb, up, sky, na, os, ag, z⟩ := x
  exact z.elim
theorem pe_again {X : Cx} {Tb : List (Addr × Str)} {c P : Addr} {k : Nat} {params : Arguments} {body : Expr} {scope : Scope} {t : XK → TE} {lpos lp2 pos : Pos} (TX : Txt X.K X.mg X.base)
    (TB : LamX.TabB X.base X.mg c P) (hcode : X.env.code = .ref c) (hmT : (P, lamQ X) ∈ Tb) (hu : ∀ p ∈ Tb, p.1 = P → p.2 = lamQ X) (hr : Room (k + 11) X.A) (L : LamX.LamS X.env.scope scope) (hdef : defaultsOf params X.env = ([], []))
    (hbind : ∀ (q : Str) (cl : List (Str × Addr)) (pm cv ctv : Value), bindArgs (PySem.W.kla_fn "<lambda>" q params body scope cl pm cv ctv) ⟨[], []⟩ = pure [])
    (hbody : ∀ (A : Around) (outer : List Env) (s : Shared) (H : Hp) (E : XK) (f c' : Addr), Room (k + 9) (A.deeper (LamX.lamEnv X scope s.heap.objs.size f c')) → PE (lamN X A outer s H E scope f c') body (t E))
    (hg : Gl X "_law_again" := by rfl) {q0 : Pos} :
    PE X (.Call (.Name "_law_again" q0) [.Lambda params body scope lpos, .List [] lp2] [] pos) (tAgain Tb (t E0)) := by
  refine ⟨fun pins s σ H Q I h => ?_⟩
  obtain ⟨hT, h⟩ := h
  obtain ⟨fd, F⟩ := TX.f__law_again
  refine wpAny_Call_Name_kw (ld_glob I hg TX.g__law_again (PySem.W.callWith_K (h₀ := X.base) I.ok.mod.kin F.kp ?_ (by rfl) (by rfl)) (by decide))
  refine Calls.spliced_cons (LamX.lam_make2 I TB hcode hmT hu hT hdef (L.has I.ok) fun f c1 pm ctv H1 s1 I1 eN T1 hf hfn hfr hco => Calls.spliced_cons (wpAny_List_spliced (Calls.spliced_nil ⟨Nat.zero_le _, Calls.spliced_nil ?_⟩)))
  obtain ⟨nss, hn, hl, tell, fin⟩ := h H1 eN T1
  have hh : H1 s1.heap.objs.size = none := I1.hok.fresh (Nat.le_refl _)
  generalize hs2 : ({ s1 with heap := s1.heap.push { cls := .type "list", data := .seq ([] : List Value).toArray } } : Shared) = s2
  have I2 : Inv X pins σ (upd H1 s1.heap.objs.size (.lst [])) s2 := by
    rw [← hs2]
    exact I1.laid (t' := s1.toks) (fun b u e => Heap.get?_push_of_some _ e) (Nat.le_refl _) ⟨Nat.zero_le _, [], 0, .nil, Heap.get?_push_size _ rfl⟩
  have s12 : Same H1 (upd H1 s1.heap.objs.size (.lst [])) := Same.new hh
  have hf2 : s2.heap.get? f = some (lamObj X params body scope pm ctv c1) := by
    rw [← hs2]
    exact Heap.get?_push_of_some _ hf
  have fl : f < s1.heap.objs.size := Heap.lt_size hf
  have hfn2 : (upd H1 s1.heap.objs.size (.lst [])) f = none := by
    rw [upd_ne (Nat.ne_of_lt fl)]
    exact hfn
  have e2 : (upd H1 s1.heap.objs.size (.lst [])) s1.heap.objs.size = some (.lst []) := upd_same
  have co2 := s12 _ _ hco
  generalize upd H1 s1.heap.objs.size (.lst []) = H2 at I2 s12 hfn2 e2 co2
  refine ⟨I2.kIn, ?_⟩
  have BT := F.bindsN be__law_again s2 [.ref f, .ref s1.heap.objs.size] I2.kIn rfl
  obtain ⟨oc, od, dV, kV, doc, pm2, an, cdv, ct, osl, rfl, lk, hcd2, _, _⟩ := F.ex
  have run : codeAny (model X.prog X.w) X.A (.call (.ref (He.ga X.K "_law_again")) ⟨[.ref f, .ref s1.heap.objs.size], []⟩) (CR (L2N.CX X.prog X.w) X.stack X.prog X.w H2 s2 Q E0) s2 := by
    refine LamX.run_ofS (k := k + 10) (N := N__law_again) (ps := ["deed", "handed"]) (us := [.ref f, .ref s1.heap.objs.size]) (vs := [.ref f, .ref s1.heap.objs.size]) lk hcd2 sc__law_again hr I2.env0 BT (.cons rfl (.cons rfl .nil)) rfl fun hr2 => ?_
    obtain ⟨tt, ht, go⟩ := again_body TX (cdv := cdv) (A := X.A) (outer := X.stack) (s := s2) (H := H2) (E := E0) (P := X.prog) (w := X.w) (hr2.mono (by omega)) (fun p1 p2 =>
      act_n (X := X) (CXg := L2N.CX X.prog X.w) (Ng := N__law_again) (qg := "_law_again") (sg := defScope s__law_again) (g := He.ga X.K "_law_again") (cdg := cdv) (Eg := E0) (k := k + 9) (i := 0) (a := "deed") (p1 := p1) (p2 := p2) I2 L hf2 hfn2 hfr (hbind _ _ _ _ _) (takesF (X := (cxOf (L2N.CX X.prog X.w) X.prog X.w X.K X.mg X.base N__law_again "_law_again" (defScope s__law_again) (He.ga X.K "_law_again") cdv X.A X.stack s2 H2 E0).tr _ _)) (fun _ _ _ _ z => (z : False).elim) hr2 (fun A outer s H hr3 => hbody A outer s H E0 f c1 hr3) (by rfl) (.inl (by rfl)) (by decide) (by decide))
    refine ⟨tt, ht, go f s1.heap.objs.size nss Q e2 hn hl (fun σ' H' R s' h0 q => ⟨h0, s' _ _ co2, tell H' R (s12.trans s') q⟩) fun H' s' => fin H' (s12.trans s')⟩
  refine wpAny_call (codeAny_mono run fun res s2 hq => ?_)
  match res, hq with
  | .ok (.ret u), hq => exact I2.after hq
  | .error e, hq => exact passF pins σ H2 _ e _ I2 hq
/-- again(lambda: body, []) in the def x -/
theorem pe_ag {P : Program} {w : World} {K : PySem.W.Frag} {mg : Str → Option Value} {base : Heap} {N : List Str} {x : Str} {sc : Scope} {f : Addr} {cdv : Value} {A : Around} {outer : List Env} {s : Shared} {H : Hp} {E : XK} {k : Nat} {params : Arguments} {body : Expr} {scope : Scope} {t : XK → TE} {q0 lpos lp2 pos : Pos} (T : Txt K mg base)
    (hcd : cdv = .ref (He.cT K (x, none)).1) (TB : LamX.TabB base mg (He.cT K (x, none)).1 (He.cT K (x, none)).2) (hr : Room (k + 11) (cxN P w K mg base N x sc f cdv A outer s H E).A)
    (L : LamX.LamS sc scope) (hdef : defaultsOf params (cxN P w K mg base N x sc f cdv A outer s H E).env = ([], []))
    (hbind : ∀ (q : Str) (cl : List (Str × Addr)) (pm cv ctv : Value), bindArgs (PySem.W.kla_fn "<lambda>" q params body scope cl pm cv ctv) ⟨[], []⟩ = pure [])
    (hbody : ∀ (A2 : Around) (outer2 : List Env) (s2 : Shared) (H2 : Hp) (E2 : XK) (f2 c2 : Addr), Room (k + 9) (A2.deeper (LamX.lamEnv (cxN P w K mg base N x sc f cdv A outer s H E) scope s2.heap.objs.size f2 c2)) → PE (lamN (cxN P w K mg base N x sc f cdv A outer s H E) A2 outer2 s2 H2 E2 scope f2 c2) body (t E2))
    (hmT : ((He.cT K (x, none)).2, lamQ (cxN P w K mg base N x sc f cdv A outer s H E)) ∈ tabs K := by first | exact List.mem_cons_self | exact List.mem_cons_of_mem _ List.mem_cons_self | exact List.mem_cons_of_mem _ (List.mem_cons_of_mem _ List.mem_cons_self) | exact List.mem_cons_of_mem _ (List.mem_cons_of_mem _ (List.mem_cons_of_mem _ List.mem_cons_self)) | exact List.mem_cons_of_mem _ (List.mem_cons_of_mem _ (List.mem_cons_of_mem _ (List.mem_cons_of_mem _ List.mem_cons_self))))
    (hg : Gl (cxN P w K mg base N x sc f cdv A outer s H E) "_law_again" := by rfl) :
    PE (cxN P w K mg base N x sc f cdv A outer s H E) (.Call (.Name "_law_again" q0) [.Lambda params body scope lpos, .List [] lp2] [] pos) (tAgain (tabs K) (t E0)) := by
  have hu : ∀ p ∈ tabs K, p.1 = (He.cT K (x, none)).2 → p.2 = lamQ (cxN P w K mg base N x sc f cdv A outer s H E) := fun p hp e => congrArg Prod.snd (inj_nodup T.tn hp hmT e)
  exact pe_again (X := cxN P w K mg base N x sc f cdv A outer s H E) (Tb := tabs K) T TB hcd hmT hu hr L hdef hbind hbody hg
end Vw
namespace Vw
open PySem PySem.Spec PyProof.Rows L2
/-- a third wood, apart from both, stays -/
theorem keep3 {K : PySem.W.Frag} {H H' : Hp} {L L' Bk : Lay} {O O' : OLay} (W : WoodAt K H Bk) (ap : ∀ b ∈ foot Bk, ¬ (b ∈ foot L ∨ b ∈ footO O)) (J : JStep H L O H' L' O') :
    WoodAt K H' Bk ∧ ∀ b ∈ foot Bk, ¬ (b ∈ foot L' ∨ b ∈ footO O') := by
  have kp : ∀ b o, b ∈ foot Bk → H b = some o → H' b = some o := fun b o hb e => by
    obtain ⟨o', e', ip⟩ := foot_live W hb
    rw [e] at e'
    cases e'
    exact J.keep b o (fun z => ap b hb (.inl z)) (fun z => ap b hb (.inr z)) e (isP_not_tbl ip)
  refine ⟨W.wkF kp, fun b hb hn => ?_⟩
  obtain ⟨o', e', ip⟩ := foot_live W hb
  rcases J.new b hn with z | z | z
  · exact ap b hb (.inl z)
  · exact ap b hb (.inr z)
  · obtain ⟨ps, q⟩ := z o' e'
    exact isP_not_tbl ip ps q
/-- three woods and the law's own, all apart -/
structure Quad (K : PySem.W.Frag) (H : Hp) (L1 L2 L3 : Lay) (O : OLay) : Prop where
  w1 : WoodAt K H L1
  w2 : WoodAt K H L2
  w3 : WoodAt K H L3
  b : OwnAt H O
  o1 : ∀ b ∈ foot L1, b ∉ footO O
  o2 : ∀ b ∈ foot L2, b ∉ footO O
  o3 : ∀ b ∈ foot L3, b ∉ footO O
  d12 : ∀ b ∈ foot L1, b ∉ foot L2
  d13 : ∀ b ∈ foot L1, b ∉ foot L3
  d23 : ∀ b ∈ foot L2, b ∉ foot L3
section
variable {K : PySem.W.Frag} {H H' : Hp} {L1 L2 L3 L' : Lay} {O O' : OLay}
theorem Quad.p1 (q : Quad K H L1 L2 L3 O) : Pair K H L1 O := ⟨q.w1, q.b, q.o1⟩
theorem Quad.sw12 (q : Quad K H L1 L2 L3 O) : Quad K H L2 L1 L3 O := ⟨q.w2, q.w1, q.w3, q.b, q.o2, q.o1, q.o3, fun b h1 h2 => q.d12 b h2 h1, q.d23, q.d13⟩
theorem Quad.sw13 (q : Quad K H L1 L2 L3 O) : Quad K H L3 L2 L1 O := ⟨q.w3, q.w2, q.w1, q.b, q.o3, q.o2, q.o1, fun b h1 h2 => q.d23 b h2 h1, fun b h1 h2 => q.d13 b h2 h1, fun b h1 h2 => q.d12 b h2 h1⟩
theorem Quad.ext (q : Quad K H L1 L2 L3 O) (s : LamX.ExtN H H') : Quad K H' L1 L2 L3 O := ⟨q.w1.ext s, q.w2.ext s, q.w3.ext s, (q.p1.ext s).B, q.o1, q.o2, q.o3, q.d12, q.d13, q.d23⟩
theorem Quad.same (q : Quad K H L1 L2 L3 O) (s : Same H H') : Quad K H' L1 L2 L3 O := q.ext (LamX.ExtN.of s)
theorem Quad.go1 (q : Quad K H L1 L2 L3 O) (P' : Pair K H' L' O') (J : JStep H L1 O H' L' O') : Quad K H' L' L2 L3 O' := by
  obtain ⟨W2, a2⟩ := keep3 q.w2 (fun b hb z => z.elim (fun z => q.d12 b z hb) (q.o2 b hb)) J
  obtain ⟨W3, a3⟩ := keep3 q.w3 (fun b hb z => z.elim (fun z => q.d13 b z hb) (q.o3 b hb)) J
  exact ⟨P'.W, W2, W3, P'.B, P'.ap, fun b hb z => a2 b hb (.inr z), fun b hb z => a3 b hb (.inr z), fun b h1 h2 => a2 b h2 (.inl h1), fun b h1 h2 => a3 b h2 (.inl h1), q.d23⟩
theorem Quad.go2 (q : Quad K H L1 L2 L3 O) (P' : Pair K H' L' O') (J : JStep H L2 O H' L' O') : Quad K H' L1 L' L3 O' := (q.sw12.go1 P' J).sw12
theorem Quad.go3 (q : Quad K H L1 L2 L3 O) (P' : Pair K H' L' O') (J : JStep H L3 O H' L' O') : Quad K H' L1 L2 L' O' := (q.sw13.go1 P' J).sw13
/-- a new wood: its places were free -/
theorem use_wood {G : Addr → Hp → Prop} {E : XK} (q : ∀ p dx d H3, WoodAt K H3 ⟨p, dx, d, [], 0, 0⟩ → (∀ b ∈ foot (⟨p, dx, d, [], 0, 0⟩ : Lay), H b = none) → Same H H3 → G p H3) :
    ∀ p dx, H p = none → H dx = none → dx ≠ p → spWoodInit K [.ref p] (upd (upd H dx (HO.own p)) p (HO.ins (He.ga K "Wood") dx [])) (fun v H2 => v = .non ∧ G p H2) E := by
  intro p dx n1 n2 n3
  refine ⟨p, dx, rfl, upd_same, fun d H3 nd W3 kp3 => ⟨rfl, q p dx d H3 W3 (fun b hb => ?_) fun b o e => ?_⟩⟩
  · have hb : b ∈ [p, d] := hb
    have hb : b = p ∨ b = d := by simpa using hb
    rcases hb with rfl | rfl
    · exact n1
    · have b1 : b ≠ p := fun z => by
        rw [z, upd_same] at nd
        cases nd
      rw [upd_ne b1] at nd
      have b2 : b ≠ dx := fun z => by
        rw [z, upd_same] at nd
        cases nd
      rw [upd_ne b2] at nd
      exact nd
  · exact kp3 b o (ne_of_none e n1) (by rw [upd_ne (ne_of_none e n1), upd_ne (ne_of_none e n2)]; exact e)
/-- new ones are apart from what is there -/
theorem fresh_apart {L : Lay} {H : Hp} (f : ∀ b ∈ foot L, H b = none) {M : Lay} (W : WoodAt K H M) : ∀ b ∈ foot M, b ∉ foot L := fun b hb z => by
  obtain ⟨o, e, _⟩ := foot_live W hb
  rw [f b z] at e
  cases e
theorem fresh_apartO {L : Lay} {H : Hp} (f : ∀ b ∈ foot L, H b = none) {O : OLay} (B : OwnAt H O) : ∀ b ∈ foot L, b ∉ footO O := fun b hb z => by
  obtain ⟨k, e⟩ := footO_obj B z
  rw [f b hb] at e
  cases e
theorem OwnAt.sm {H H' : Hp} (B : OwnAt H O) (s : Same H H') : OwnAt H' O := B.wk fun b o _ e => s b o e
end
/-- three woods that go the same way, two of them turned -/
structure In3 (K : PySem.W.Frag) (H : Hp) (p1 p2 p3 po : Addr) (m : Nat) (L1 L2 L3 : Lay) (O : OLay) : Prop where
  q : Quad K H L1 L2 L3 O
  a1 : L1.p = p1
  a2 : L2.p = p2
  a3 : L3.p = p3
  a4 : O.p = po
  e : L1.wd = O.wd
  e2 : L2.wd = turnW L1.wd
  e3 : L3.wd = nameW L1.wd
  f1 : Fine L1.wd m
  f2 : Fine L2.wd m
  f3 : Fine L3.wd m
theorem In3.same {K : PySem.W.Frag} {H H' : Hp} {p1 p2 p3 po : Addr} {m : Nat} {L1 L2 L3 : Lay} {O : OLay} (i : In3 K H p1 p2 p3 po m L1 L2 L3 O) (s : Same H H') : In3 K H' p1 p2 p3 po m L1 L2 L3 O := ⟨i.q.same s, i.a1, i.a2, i.a3, i.a4, i.e, i.e2, i.e3, i.f1, i.f2, i.f3⟩
theorem In3.ext {K : PySem.W.Frag} {H H' : Hp} {p1 p2 p3 po : Addr} {m : Nat} {L1 L2 L3 : Lay} {O : OLay} (i : In3 K H p1 p2 p3 po m L1 L2 L3 O) (s : LamX.ExtN H H') : In3 K H' p1 p2 p3 po m L1 L2 L3 O := ⟨i.q.ext s, i.a1, i.a2, i.a3, i.a4, i.e, i.e2, i.e3, i.f1, i.f2, i.f3⟩
end Vw
namespace Vw
open PySem PySem.Spec PyProof.Rows L2
local macro_rules | `(tactic| walk_at "rd") => `(tactic| simp only [tSeq, tNext, tIfS, tAsg, tRet, tRetN, tDrop, tVar, tC, tOp, tUn, tTest, tB, tAnd, tOr, tNot, tAndV, tOrV, tNotV, tIf, tChain, tCB, tCons, tNil, tCall, tMeth, tMake, tFld, sFld, tTup, tLst, tTupS, tLstS, tDNewKS, tDNewTS, tTold, tCmp, t2I, tIsN, tNotN, tPar, gName, gNil, gCons, gTup, gSub, rI0, rU, rEq, rNe, tDGet, tDIn, tDNotIn, sDPut, tDNewK, tDGet1, tDGet2, tDPop1, tDPop2, tBM, tBM0, tM0, tM1, tSl, tPart, tNoPart, tBreak, tCont, tThru, L2.start, List.map_cons, List.map_nil, List.length_cons, List.length_nil, List.cons_append, List.nil_append, List.append_nil, List.replicate_succ, List.replicate_zero, Nat.reduceAdd, Nat.reduceSub, Nat.zero_add, List.getElem?_cons_zero, List.getElem?_cons_succ, List.set_cons_zero, List.set_cons_succ, wipe, cxOf_K, tYes, List.cons.injEq, and_self, Option.some.injEq, V.int.injEq, V.bl.injEq, V.ref.injEq, V.str.injEq, exists_eq_left', exists_eq_left, exists_and_left, and_assoc, true_and, and_true, if_true, if_false, ite_true, ite_false, Bool.not_true, Bool.not_false, Bool.false_eq_true, reduceIte])
def spLaw (K : PySem.W.Frag) : Sp := fun vs H Q _ => ∃ (a : Addr) (ns : List Int), vs = [.ref a] ∧ SqL K H a (ns.map V.int) ∧ ns.length ≤ 63 ∧ (∀ z ∈ ns, z.natAbs < 2 ^ bigC) ∧ LamX.Tabs (tabs K) H ∧ ∀ H', Q (.bl true) H'
theorem six_names : ∀ z ∈ sixL, nameZ z = true := by decide +kernel
theorem ins_ex (M : Wd) (ms : Str) {n : Int} : ∀ {ys : List Int}, n ∉ ys → ys.Pairwise (fun a b => aheadN M ms a b = true) → ∃ zs : List Int, zs.Perm (n :: ys) ∧ zs.Pairwise fun a b => aheadN M ms a b = true
  | [], _, _ => ⟨[n], List.Perm.refl _, List.pairwise_singleton _ _⟩
  | y :: r, hn, h => by
    obtain ⟨h1, h2⟩ := List.pairwise_cons.mp h
    cases c : aheadN M ms n y with
    | true =>
      refine ⟨n :: y :: r, List.Perm.refl _, List.pairwise_cons.mpr ⟨fun z hz => ?_, h⟩⟩
      rcases List.mem_cons.mp hz with rfl | hz
      · exact c
      · exact ahead_trans c (h1 z hz)
    | false =>
      have c2 := ahead_total (fun e => hn (by rw [e]; exact List.mem_cons_self)) c
      obtain ⟨zs, p, w⟩ := ins_ex M ms (fun z => hn (List.mem_cons_of_mem _ z)) h2
      refine ⟨y :: zs, (p.cons y).trans (List.Perm.swap n y r), List.pairwise_cons.mpr ⟨fun z hz => ?_, w⟩⟩
      rcases List.mem_cons.mp (p.mem_iff.mp hz) with rfl | hz
      · exact c2
      · exact h1 z hz
theorem ord_ex (M : Wd) (ms : Str) : ∀ {ns : List Int}, ns.Nodup → ∃ ys, IsOrd M ms ns ys
  | [], _ => ⟨[], ord_nil⟩
  | n :: r, h => by
    obtain ⟨h1, h2⟩ := List.nodup_cons.mp h
    obtain ⟨ys, o⟩ := ord_ex M ms h2
    obtain ⟨zs, p, w⟩ := ins_ex M ms (fun z => h1 (o.perm.mem_iff.mp z)) o.pw
    exact ⟨zs, p.trans (o.perm.cons n), w⟩
theorem replies_nodup {rs : Rows} (nk : (rs.map (·.1)).Nodup) (n : Int) : (repliesR rs n).Nodup := nk.sublist (List.filter_sublist.map _)
theorem sub_len : ∀ {l m : List Int}, l.Nodup → (∀ x ∈ l, x ∈ m) → l.length ≤ m.length
  | [], _, _, _ => Nat.zero_le _
  | a :: t, m, nd, h => by
    obtain ⟨h1, h2⟩ := List.nodup_cons.mp nd
    have ha := h a List.mem_cons_self
    have ih := sub_len (m := m.erase a) h2 fun x hx => (List.mem_erase_of_ne (show x ≠ a from fun z => h1 (by rw [← z]; exact hx))).mpr (h x (List.mem_cons_of_mem _ hx))
    rw [List.length_erase_of_mem ha] at ih
    have := List.length_pos_of_mem ha
    rw [List.length_cons]
    omega
/-- four new lists in a new list -/
theorem newLL4 {H Ha Hb Hc Hd He : Hp} {p1 p2 p3 p4 q : Addr} {a b c d : List Int} (na : H p1 = none) (sa : Same H Ha) (ea : Ha p1 = some (.lst (a.map V.int))) (nb : Ha p2 = none) (sb : Same Ha Hb) (eb : Hb p2 = some (.lst (b.map V.int)))
    (nc : Hb p3 = none) (sc : Same Hb Hc) (ec : Hc p3 = some (.lst (c.map V.int))) (nd : Hc p4 = none) (sd : Same Hc Hd) (ed : Hd p4 = some (.lst (d.map V.int))) (ne : Hd q = none) (se : Same Hd He) (ee : He q = some (.lst [.ref p1, .ref p2, .ref p3, .ref p4])) :
    NewLL H He q [(p1, a), (p2, b), (p3, c), (p4, d)] := by
  have no : ∀ {G : Hp} {x y : Addr} {o : HO}, G x = some o → G y = none → x ≠ y := fun {G x y o} h1 h2 z => by
    rw [z, h2] at h1
    cases h1
  have a1 := sb _ _ ea
  have a2 := sc _ _ a1
  have a3 := sd _ _ a2
  have b2 := sc _ _ eb
  have b3 := sd _ _ b2
  have c3 := sd _ _ ec
  refine ⟨sa.trans (sb.trans (sc.trans (sd.trans se))), sa.free (sb.free (sc.free (sd.free ne))), ee, fun x hx => ?_, ?_⟩
  · simp only [List.mem_cons, List.not_mem_nil, or_false] at hx
    rcases hx with rfl | rfl | rfl | rfl
    · exact ⟨se _ _ a3, na, no a3 ne⟩
    · exact ⟨se _ _ b3, sa.free nb, no b3 ne⟩
    · exact ⟨se _ _ c3, sa.free (sb.free nc), no c3 ne⟩
    · exact ⟨se _ _ ed, sa.free (sb.free (sc.free nd)), no ed ne⟩
  · show [p1, p2, p3, p4].Nodup
    simp only [List.nodup_cons, List.mem_cons, List.not_mem_nil, or_false, not_or, List.nodup_nil, and_true, not_false_eq_true]
    exact ⟨⟨no ea nb, no a1 nc, no a2 nd⟩, ⟨no eb nc, no b2 nd⟩, no ec nd⟩
/-- what the second wood tells of a vote is turned back -/
theorem use_its {K : PySem.W.Frag} {H13 : Hp} {dp : Addr} {dd : Deed} {v1 v2 : V} {M : Wd} (hd : SqT K H13 dp dd.tup) (d1 : Dp K H13 v1 (actD M dd)) (d2 : Dp K H13 v2 (backD dd (actD M dd))) :
    rIxT K (V.ref dp) (V.int 0) H13 fun x H1 => scal x (V.str (Str.ofString "vote")) = true ∧ if decide (x = V.str (Str.ofString "vote")) = true then
      rIsi K [v1, V.ty "int"] H1 fun x H1 => ∃ c, x = V.bl c ∧ if c = true then
         rIsi K [v2, V.ty "int"] H1 fun x H1 => ∃ c, x = V.bl c ∧ if c = true then ∃ x, v2 = V.int x ∧ Same H13 H1 ∧ ∃ v3, Dp K H1 v3 (actD M dd) ∧ V.int (0 - x) = v3 else Same H13 H1 ∧ ∃ v3, Dp K H1 v3 (actD M dd) ∧ V.non = v3
        else Same H13 H1 ∧ ∃ v3, Dp K H1 v3 (actD M dd) ∧ v2 = v3
      else Same H13 H1 ∧ ∃ v3, Dp K H1 v3 (actD M dd) ∧ v2 = v3 := by
  cases dd with
  | say n who t =>
    refine ⟨dp, _, 0, .str (Str.ofString "say"), rfl, rfl, hd, rfl, rfl, ?_⟩
    rw [dq (by decide)]
    exact iteF ⟨Same.refl _, v2, d2, rfl⟩
  | change n who t =>
    refine ⟨dp, _, 0, .str (Str.ofString "change"), rfl, rfl, hd, rfl, rfl, ?_⟩
    rw [dq (by decide)]
    exact iteF ⟨Same.refl _, v2, d2, rfl⟩
  | strike n who =>
    refine ⟨dp, _, 0, .str (Str.ofString "strike"), rfl, rfl, hd, rfl, rfl, ?_⟩
    rw [dq (by decide)]
    exact iteF ⟨Same.refl _, v2, d2, rfl⟩
  | tick n who =>
    refine ⟨dp, _, 0, .str (Str.ofString "tick"), rfl, rfl, hd, rfl, rfl, ?_⟩
    rw [dq (by decide)]
    exact iteF ⟨Same.refl _, v2, d2, rfl⟩
  | vote n who way =>
    refine ⟨dp, _, 0, .str (Str.ofString "vote"), rfl, rfl, hd, rfl, rfl, ?_⟩
    rw [decide_eq_true rfl]
    refine iteT ?_
    cases e : actM M (.vote n who way) with
    | error r =>
      have ea : actD M (.vote n who way) = refD r.cls := by
        unfold actD
        rw [e]
      rw [ea] at d1 d2 ⊢
      exact use_isi d1 (kit_int _) ⟨_, rfl, iteF ⟨Same.refl _, v2, d2, rfl⟩⟩
    | ok p =>
      obtain ⟨v, M'⟩ := p
      have ea : actD M (.vote n who way) = valD v := by
        unfold actD
        rw [e]
      rw [ea] at d1 d2 ⊢
      rcases act_val e with rfl | ⟨i, rfl⟩
      · exact use_isi d1 (kit_int _) ⟨_, rfl, iteF ⟨Same.refl _, v2, d2, rfl⟩⟩
      · have d2 : Dp K H13 v2 (.int (-i)) := d2
        refine use_isi d1 (kit_int _) ⟨_, rfl, iteT (use_isi d2 (kit_int _) ⟨_, rfl, iteT ?_⟩)⟩
        cases d2
        refine ⟨-i, rfl, Same.refl _, .int (0 - -i), ?_, rfl⟩
        rw [show 0 - -i = i by omega]
        exact .int i
section
variable {P : Program} {w : World} {K : PySem.W.Frag} {mg : Str → Option Value} {base : Heap}
abbrev N_law : List Str := ["script", "k", "more", "own", "one", "other", "third", "j", "number", "name", "deed", "said", "its"]
theorem sc_law : FnScope N_law ["script"] (defScope s_law) := ⟨rfl, rfl, rfl, by decide +kernel, rfl, by decide +kernel, by decide +kernel⟩
theorem be_law : BindEq "law" "law" s_law ["script"] := fun _ _ _ _ _ _ us hl => match us, hl with | [_], _ => rfl
theorem D_law {fd : FuncData} (F : FunD K "law" "law" (defArgs s_law) (defBody s_law) (defScope s_law) [] [] (He.ga K "law") fd) (T : Txt K mg base) : FnOk P w K mg base (L2N.CX P w) 25 (He.ga K "law") fd ["script"] (spLaw K) := by
  refine fn_defC F sc_law (fun vs H Q E h => ?_) (fun cdv A outer s H vs Q E hcd hr h => ?_)
  · obtain ⟨a, ns, rfl, _⟩ := h
    rfl
  · obtain ⟨a, ns, rfl, hs, hl, hz, hT, q⟩ := h
    refine ⟨_, (pss_cons (ps_for ownE rfl (pi_range1 (by rfl) T.b_range (pa_cons (pe_callB (call_max2 rfl) (by rfl) T.b_max (by decide +kernel) (pa_cons pe_int (pa_cons (pe_callB (call_min2 rfl) (by rfl) T.b_min (by decide +kernel) (pa_cons pe_int (pa_cons (pe_callB call_len_seq (by rfl) T.b_len (by decide +kernel) (pa_cons (pv 0) pa_nil)) pa_nil))) pa_nil))) pa_nil)) (pg_name (i := 1) sc_law.nd rfl (Or.inl rfl))
      (pss_cons (ps_set (i := 2) sc_law.nd rfl (Or.inl rfl) (pe_cd (D__law_drawn T) (by exact hr.mono (by first | decide | omega)) T.g__law_drawn passE (pa_cons (pe_cd (D__law_cell T) (by exact hr.mono (by first | decide | omega)) T.g__law_cell passE (pa_cons (pv 0) (pa_cons (pv 1) pa_nil))) (pa_cons (pv 1) pa_nil))))
      (pss_cons (ps_asg (pe_tupS (pa_cons (pe_cd0 (D__law_own T) (by exact hr.mono (by first | decide | omega)) T.g__law_own passE) (pa_cons (pe_mk0 T.c_Wood.m (D_Wood___init__ T) (by exact hr.mono (by first | decide | omega)) T.c_Wood.g passE) (pa_cons (pe_mk0 T.c_Wood.m (D_Wood___init__ T) (by exact hr.mono (by first | decide | omega)) T.c_Wood.g passE) (pa_cons (pe_mk0 T.c_Wood.m (D_Wood___init__ T) (by exact hr.mono (by first | decide | omega)) T.c_Wood.g passE) pa_nil))))) (pg_tup (n := 4) (by rfl) (pgs_cons (pg_name (i := 3) sc_law.nd rfl (Or.inl rfl)) (pgs_cons (pg_name (i := 4) sc_law.nd rfl (Or.inr rfl)) (pgs_cons (pg_name (i := 5) sc_law.nd rfl (Or.inl rfl)) (pgs_cons (pg_name (i := 6) sc_law.nd rfl (Or.inl rfl)) pgs_nil))))))
      (pss_cons (ps_for ownE rfl (pi_range1 (by rfl) T.b_range (pa_cons (pe_op op_mod (pe_op op_fdivW (pv 2) pe_int) pe_int) pa_nil)) (pg_name (i := 7) sc_law.nd rfl (Or.inl rfl))
      (pss_cons (ps_set (i := 10) sc_law.nd rfl (Or.inl rfl) (pe_cd (D__law_deed T) (by exact hr.mono (by first | decide | omega)) T.g__law_deed passE (pa_cons (pe_cd (D__law_drawn T) (by exact hr.mono (by first | decide | omega)) T.g__law_drawn passE (pa_cons (pv 2) (pa_cons (pe_op op_add pe_int (pv 7)) pa_nil))) (pa_cons (pv 3) pa_nil))))
      (pss_cons (ps_expr (pe_cd (D__law_act T) (by exact hr.mono (by first | decide | omega)) T.g__law_act passE (pa_cons (pv 3) (pa_cons (pv 10) pa_nil))))
      (pss_cons (ps_set (i := 11) sc_law.nd rfl (Or.inl rfl) (pe_cd (D__law_do T) (by exact hr.mono (by first | decide | omega)) T.g__law_do passE (pa_cons (pv 4) (pa_cons (pv 10) pa_nil))))
      (pss_cons (ps_set (i := 12) sc_law.nd rfl (Or.inl rfl) (pe_cd (D__law_do T) (by exact hr.mono (by first | decide | omega)) T.g__law_do passE (pa_cons (pv 5) (pa_cons (pe_cd (D__law_turned T) (by exact hr.mono (by first | decide | omega)) T.g__law_turned passE (pa_cons (pv 10) pa_nil)) pa_nil))))
      (C8.pss_cut (ps_if (PW.pt (pw_and (pt_cmpR op_eq (pe_ix ix_tup (pv 10) pe_int (fun _ _ => rfl)) pe_str (nomark _)) (pw_and1 (pt_val (pe_callB call_isi (by rfl) T.b_isinstance (by decide +kernel) (pa_cons (pv 11) (pa_cons (pe_bltn (v := .ty "int") (by rfl) T.b_int (by decide +kernel) rfl) pa_nil))))))) (pss_one (ps_set (i := 12) sc_law.nd rfl (Or.inl rfl) (pe_ifExp (pt_val (pe_callB call_isi (by rfl) T.b_isinstance (by decide +kernel) (pa_cons (pv 12) (pa_cons (pe_bltn (v := .ty "int") (by rfl) T.b_int (by decide +kernel) rfl) pa_nil)))) (pe_op op_sub pe_int (pv 12)) pe_non))) pss_nil)
      (pss_one (ps_if (PW.pt (pw_or (pt_ned (pv 12) (pv 11) (by exact hr.units)) (pw_or1 (pt_ned (pe_cd (D__law_do T) (by exact hr.mono (by first | decide | omega)) T.g__law_do passE (pa_cons (pv 6) (pa_cons (pe_cd (D__law_named T) (by exact hr.mono (by first | decide | omega)) T.g__law_named passE (pa_cons (pv 10) pa_nil)) pa_nil))) (pv 11) (by exact hr.units))))) (pss_one (ps_ret pe_bl)) pss_nil))))))))
      (pss_cons (ps_if (PW.pt (pw_or (pt_ned (pe_md0 (pv 4) T.c_Wood.c T.m_Wood_numbers (D_Wood_numbers T) (by exact hr.mono (by first | decide | omega)) passE) (pe_md0 (pv 5) T.c_Wood.c T.m_Wood_numbers (D_Wood_numbers T) (by exact hr.mono (by first | decide | omega)) passE) (by exact hr.units)) (pw_or1 (pt_ned (pe_md0 (pv 4) T.c_Wood.c T.m_Wood_numbers (D_Wood_numbers T) (by exact hr.mono (by first | decide | omega)) passE) (pe_md0 (pv 6) T.c_Wood.c T.m_Wood_numbers (D_Wood_numbers T) (by exact hr.mono (by first | decide | omega)) passE) (by exact hr.units))))) (pss_one (ps_ret pe_bl)) pss_nil)
      (pss_cons (ps_for ownE rfl (pi_list (pe_md0 (pv 4) T.c_Wood.c T.m_Wood_numbers (D_Wood_numbers T) (by exact hr.mono (by first | decide | omega)) passE)) (pg_name (i := 8) sc_law.nd rfl (Or.inl rfl))
      (pss_one (ps_if (pt_not (pt_val (pe_cd (D__law_two_right T) (by exact hr.mono (by first | decide | omega)) T.g__law_two_right passE (pa_cons (pv 4) (pa_cons (pv 5) (pa_cons (pv 6) (pa_cons (pv 8) pa_nil))))))) (pss_one (ps_ret pe_bl)) pss_nil)))
      (pss_cons (ps_for ownE rfl (pi_list (pe_lstS (pa_cons pe_str (pa_cons pe_str (pa_cons pe_str (pa_cons pe_str (pa_cons pe_str (pa_cons pe_str pa_nil)))))))) (pg_name (i := 9) sc_law.nd rfl (Or.inl rfl))
      (pss_cons (ps_if (pt_cmpR op_ne (pe_md (pv 5) T.c_Wood.c T.m_Wood_standing (D_Wood_standing T) (by exact hr.mono (by first | decide | omega)) passE (pa_cons (pv 9) pa_nil)) (pe_op op_sub pe_int (pe_md (pv 4) T.c_Wood.c T.m_Wood_standing (D_Wood_standing T) (by exact hr.mono (by first | decide | omega)) passE (pa_cons (pv 9) pa_nil))) (nomark _)) (pss_one (ps_ret pe_bl)) pss_nil)
      (pss_one (ps_if (pt_cmpR op_ne (pe_md (pv 6) T.c_Wood.c T.m_Wood_standing (D_Wood_standing T) (by exact hr.mono (by first | decide | omega)) passE (pa_cons (pe_cd (D__law_other_name T) (by exact hr.mono (by first | decide | omega)) T.g__law_other_name passE (pa_cons (pv 9) pa_nil)) pa_nil)) (pe_md (pv 4) T.c_Wood.c T.m_Wood_standing (D_Wood_standing T) (by exact hr.mono (by first | decide | omega)) passE (pa_cons (pv 9) pa_nil)) (nomark _)) (pss_one (ps_ret pe_bl)) pss_nil))))
      (pss_one (ps_if (pt_not (pt_val (pe_ag (k := 12) (x := "law") T hcd T.tb_law (by exact hr.mono (by first | decide | omega)) (LamX.lamS_by (by decide +kernel)) rfl (fun _ _ _ _ _ => rfl) (fun A2 outer2 s2 H2 E2 f2 c2 hr => by exact (pe_lstS (pa_cons (pe_md0 (pv 4) T.c_Wood.c T.m_Wood_numbers (D_Wood_numbers T) (by exact hr.mono (by first | decide | omega)) passL) (pa_cons (pe_md (pv 4) T.c_Wood.c T.m_Wood_replies (D_Wood_replies T) (by exact hr.mono (by first | decide | omega)) passL (pa_cons pe_int pa_nil)) (pa_cons (pe_md (pv 4) T.c_Wood.c T.m_Wood_below (D_Wood_below T) (by exact hr.mono (by first | decide | omega)) passL (pa_cons pe_int pa_nil)) (pa_cons (pe_cd (D_ordered T) (by exact hr.mono (by first | decide | omega)) T.g_ordered passL (pa_cons (pv 4) (pa_cons pe_int (pa_cons pe_str pa_nil)))) pa_nil))))))))) (pss_one (ps_ret pe_bl)) pss_nil)))))))))
      (pss_one (ps_ret pe_bl))), ?_⟩
    walk_at "rd"
    generalize hm : max (1 : Int) (min 3 ns.length) = mx
    have mx1 : mx ≤ 3 := by omega
    have z9 : (1000 : Nat) < sizeLine := by rw [sizeLine_eq]; omega
    refine forR2 (n := mx) (fun R h => ?_) (by omega) (fun _ σ' H' => (∃ x1 x2 x3 x4 x5 x6 x7 x8 x9 x10 x11 x12, σ' = [some (.ref a), x1, x2, x3, x4, x5, x6, x7, x8, x9, x10, x11, x12]) ∧ SqL K H' a (ns.map V.int) ∧ LamX.Tabs (tabs K) H') ⟨⟨_, _, _, _, _, _, _, _, _, _, _, _, rfl⟩, hs, hT⟩ (fun k σ1 H1 D1 hk h1 nx1 ct1 rt1 _ => ?_) (fun σ1 H1 h1 => ?_)
    · walk_at "rd"
      refine ⟨_, .inl hs, ?_⟩
      rw [List.length_map]
      have e : (if (if (ns.length : Int) < 3 then (ns.length : Int) else 3) > 1 then (if (ns.length : Int) < 3 then (ns.length : Int) else 3) else 1) = mx := by
        rw [← hm]
        split <;> split <;> omega
      rw [e]
      exact h
    · obtain ⟨⟨x1, x2, x3, x4, x5, x6, x7, x8, x9, x10, x11, x12, rfl⟩, hs1, hT1⟩ := h1
      walk_at "rd"
      have kb : ((k : Nat) : Int).natAbs < 2 ^ 200 := Nat.lt_trans (show ((k : Nat) : Int).natAbs < 2 ^ 10 by omega) (by decide)
      refine ⟨a, ns, k, rfl, hs1, by omega, by omega, by omega, fun H2 s2 => ⟨_, _, rfl, cell_abs (by omega) (by omega) hz, kb, ?_⟩⟩
      have mr := drawM_range (cellM ns k) k
      generalize drawM (cellM ns k) k = more at mr ⊢
      refine ⟨rfl, fun po do_ H3 np3 nd3 s3 B3 => ?_⟩
      refine use_wood fun p1 dx1 d1 H4 W1 fr1 s4 => ?_
      refine use_wood fun p2 dx2 d2 H5 W2 fr2 s5 => ?_
      refine use_wood fun p3 dx3 d3 H6 W3 fr3 s6 => ?_
      have B4 := OwnAt.sm B3 s4
      have B5 := OwnAt.sm B4 s5
      have qd : Quad K H6 ⟨p1, dx1, d1, [], 0, 0⟩ ⟨p2, dx2, d2, [], 0, 0⟩ ⟨p3, dx3, d3, [], 0, 0⟩ ⟨po, do_, [], 0, 0⟩ := ⟨(W1.same s5).same s6, W2.same s6, W3, OwnAt.sm B5 s6, fresh_apartO fr1 B3, fresh_apartO fr2 B4, fresh_apartO fr3 B5, fresh_apart fr2 W1, fresh_apart fr3 (W1.same s5), fresh_apart fr3 W2⟩
      refine ⟨by omega, fun tp H7 n7 s7 e7 => ⟨tp, rfl, _, .inl (.inl e7), rfl, _, _, rfl, _, _, rfl, _, _, rfl, _, _, rfl, rfl, ?_⟩⟩
      have s27 := s2.trans (s3.trans (s4.trans (s5.trans (s6.trans s7))))
      have hs7 := s27.seq hs1
      have T7 := hT1.ext s27
      have i7 : In3 K H7 p1 p2 p3 po 0 ⟨p1, dx1, d1, [], 0, 0⟩ ⟨p2, dx2, d2, [], 0, 0⟩ ⟨p3, dx3, d3, [], 0, 0⟩ ⟨po, do_, [], 0, 0⟩ := ⟨qd.same s7, rfl, rfl, rfl, rfl, rfl, rfl, rfl, fine0, fine0, fine0⟩
      clear qd W1 W2 W3 B3 B4 B5 e7 fr1 fr2 fr3
      have m0 : 0 ≤ more / 8 % 51 ∧ more / 8 % 51 < 51 := by omega
      refine forR2 (n := more / 8 % 51) (fun R h => ?_) (by omega) (fun j σ' H' => (∃ L1 L2 L3 O, In3 K H' p1 p2 p3 po j L1 L2 L3 O) ∧ (∃ y7 y8 y9 y10 y11 y12, σ' = [some (.ref a), some (.int k), some (.int more), some (.ref po), some (.ref p1), some (.ref p2), some (.ref p3), y7, y8, y9, y10, y11, y12]) ∧ SqL K H' a (ns.map V.int) ∧ LamX.Tabs (tabs K) H')
        ⟨⟨_, _, _, _, i7⟩, ⟨_, _, _, _, _, _, rfl⟩, hs7, T7⟩ (fun j σ8 H8 D2 hj h8 nx2 ct2 rt2 _ => ?_) (fun σ8 H8 h8 => ?_)
      · walk_at "rd"
        exact use_div (use_mod h)
      · obtain ⟨⟨L1, L2, L3, O, i8⟩, ⟨y7, y8, y9, y10, y11, y12, rfl⟩, hs8, T8⟩ := h8
        walk_at "rd"
        refine ⟨_, _, rfl, more_abs mr, Nat.lt_trans (show (30 + (j : Int)).natAbs < 2 ^ 10 by omega) (by decide), ?_⟩
        have hr3 := drawM_range more (30 + j)
        generalize drawM more (30 + j) = here at hr3 ⊢
        obtain ⟨q8, a1, a2, a3, a4, e, e2, e3, f1, f2, f3⟩ := i8
        rw [← a1, ← a2, ← a3, ← a4]
        refine ⟨O, here, rfl, hr3, q8.b, f1.names e, fun dd dp H9 ok n9 s9 e9 => ?_⟩
        have hd9 : SqT K H9 dp dd.tup := .inl (.inl e9)
        refine use_act (q8.p1.same s9) (e ▸ f1) (by omega) ok hd9 fun v H10 O10 P10 w10 J10 T10 d10 => ?_
        have q10 := (q8.same s9).go1 P10 J10
        rw [← e] at w10
        have hd10 := (J10.lk (q8.p1.same s9)).sqt hd9
        refine use_do q10.p1 f1 (by omega) ok hd10 (T10 (T8.ext s9)) fun v1 H11 L1' P11 w11 J11 T11 d11 => ?_
        have q11 := q10.go1 P11 J11
        have hd11 := (J11.lk q10.p1).sqt hd10
        refine ⟨dp, dd, rfl, hd11, fun qd H12 s12 hq12 => ?_⟩
        have ok2 := deed_map tw_turn ok
        have q12 := (q11.same s12).sw12
        refine use_do q12.p1 f2 (by omega) ok2 hq12 (T11.ext s12) fun v2 H13 L2' P13 w13o J13 T13 d13 => ?_
        have q13 := (q12.go1 P13 J13).sw12
        rw [e2] at d13
        have w13 : L2'.wd = turnW L1'.wd := by rw [w13o, e2, actW_map tw_turn, w11]
        rw [turn_told] at d13
        have lk13 := (LK.same s12).trans (J13.lk q12.p1)
        have lk9 := (J10.lk (q8.p1.same s9)).trans ((J11.lk q10.p1).trans lk13)
        have d11' := dp_lk lk13 d11
        have hd13 := lk13.sqt hd11
        refine ⟨fun σ' H' => Same H13 H' ∧ ∃ v3, Dp K H' v3 (actD L1.wd dd) ∧ σ' = [some (.ref a), some (.int k), some (.int more), some (.ref O.p), some (.ref L1.p), some (.ref L2.p), some (.ref L3.p), some (.int j), y8, y9, some (.ref dp), some v1, some v3], ?_, ?_⟩
        · walk_at "rd"
          exact use_its hd13 d11' d13
        rintro σ9 H14 ⟨s14, v3, d3, rfl⟩
        walk_at "rd"
        have d11s := dp_lk (LK.same s14) d11'
        refine use_neD d3 d11s (shaped_act _ _) (shaped_act _ _) ⟨_, rfl, ?_⟩
        rw [eqv_act]
        refine iteF ⟨dp, dd, rfl, (LK.same s14).sqt hd13, fun qn H15 s15 hq15 => ?_⟩
        have q15 := ((q13.same s14).same s15).sw13
        have T15 := (T13.ext s14).ext s15
        refine use_do q15.p1 f3 (by omega) (deed_map tw_name ok) hq15 T15 fun v4 H16 L3' P16 w16o J16 T16 d16 => ?_
        have q16 := (q15.go1 P16 J16).sw13
        have w16 : L3'.wd = nameW L1'.wd := by rw [w16o, e3, actW_map tw_name, w11]
        rw [e3, name_told] at d16
        have d11t := dp_lk ((LK.same s15).trans (J16.lk q15.p1)) d11s
        refine use_neD d16 d11t (shaped_act _ _) (shaped_act _ _) ⟨_, rfl, ?_⟩
        rw [eqv_act]
        have f1' : Fine L1'.wd (j + 1) := by rw [w11]; exact f1.actW ok
        have f2' : Fine L2'.wd (j + 1) := by rw [w13o]; exact f2.actW ok2
        have f3' : Fine L3'.wd (j + 1) := by rw [w16o]; exact f3.actW (deed_map tw_name ok)
        have lkE : LK H8 H16 := (LK.same s9).trans (lk9.trans ((LK.same s14).trans ((LK.same s15).trans (J16.lk q15.p1))))
        exact iteF (nx2 _ _ ⟨⟨L1', L2', L3', O10, q16, J11.p.trans a1, J13.p.trans a2, J16.p.trans a3, J10.q.trans a4, w11.trans w10.symm, w13, w16, f1', f2', f3'⟩, ⟨_, _, _, _, _, _, by rw [a1, a2, a3, a4]⟩, lkE.seq hs8, T16⟩)
      · obtain ⟨⟨L1, L2, L3, O, i8⟩, ⟨y7, y8, y9, y10, y11, y12, rfl⟩, hs8, T8⟩ := h8
        walk_at "rd"
        obtain ⟨q8, a1, a2, a3, a4, e, e2, e3, f1, f2, f3⟩ := i8
        rw [← a1, ← a2, ← a3, ← a4]
        have mj : (more / 8 % 51).toNat ≤ 60 := by omega
        have ky2 : sortI (L2.rows.map (·.1)) = sortI (L1.rows.map (·.1)) := by
          rw [show L2.rows = mapRs id (-1) L1.rows from congrArg Wd.rows e2, keys_map]
        have ky3 : sortI (L3.rows.map (·.1)) = sortI (L1.rows.map (·.1)) := by
          rw [show L3.rows = mapRs nameS 1 L1.rows from congrArg Wd.rows e3, keys_map]
        refine ⟨_, _, q8.w1.top, fw_no _ _ _ (by decide) (by decide) (by decide), use_numbers q8.w1 f1.G fun u1 H9 n9 s9 e9 => ⟨_, _, (q8.same s9).w2.top, fw_no _ _ _ (by decide) (by decide) (by decide), use_numbers (q8.same s9).w2 f2.G fun u2 H10 n10 s10 e10 => ?_⟩⟩
        rw [ky2] at e10
        have s8a := s9.trans s10
        refine use_neL (s10 _ _ e9) e10 ⟨_, rfl, iteF ⟨_, _, (q8.same s8a).w1.top, fw_no _ _ _ (by decide) (by decide) (by decide), use_numbers (q8.same s8a).w1 f1.G fun u3 H11 n11 s11 e11 => ⟨_, _, (q8.same (s8a.trans s11)).w3.top, fw_no _ _ _ (by decide) (by decide) (by decide), use_numbers (q8.same (s8a.trans s11)).w3 f3.G fun u4 H12 n12 s12 e12 => ?_⟩⟩⟩
        rw [ky3] at e12
        have s8b := s8a.trans (s11.trans s12)
        refine use_neL (s12 _ _ e11) e12 ⟨_, rfl, iteF ?_⟩
        have q12 := q8.same s8b
        have hs12 := s8b.seq hs8
        have T12 := T8.ext s8b
        refine forP (fun p l H' => Same H12 H' ∧ l = (sortI (L1.rows.map (·.1))).map V.int) (fun R h => ?_)
          (fun p l i σ' H' => (∃ y7 y8 y9 y10 y11 y12, σ' = [some (.ref a), some (.int k), some (.int more), some (.ref O.p), some (.ref L1.p), some (.ref L2.p), some (.ref L3.p), y7, y8, y9, y10, y11, y12]) ∧ Same H12 H' ∧ SqL K H' p l ∧ l = (sortI (L1.rows.map (·.1))).map V.int)
          (fun p l H' hp g => ⟨⟨_, _, _, _, _, _, rfl⟩, g.1, hp, g.2⟩) (fun p l i σ' H' h => h.2.2.1) (fun p l i v σ' H13 D' hi h13 nx3 rt3 => ?_) (fun p l σ' H13 h13 => ?_)
        · walk_at "rd"
          exact ⟨_, _, q12.w1.top, fw_no _ _ _ (by decide) (by decide) (by decide), use_numbers q12.w1 f1.G fun p H' n' s' e' => h p _ H' (SqL.of e') ⟨s', rfl⟩⟩
        · obtain ⟨⟨y7, y8, y9, y10, y11, y12, rfl⟩, s13, hp13, rfl⟩ := h13
          obtain ⟨n, hn, rfl⟩ := List.mem_map.mp (List.mem_of_getElem? hi)
          obtain ⟨r, hr'⟩ : ∃ r, findR L1.wd.rows n = some r := by
            obtain ⟨⟨n', r⟩, hp, rfl⟩ := List.mem_map.mp ((sortI_perm _).mem_iff.mp hn)
            exact ⟨r, findR_of f1.G.wf.nk hp⟩
          walk_at "rd"
          have q13 := q12.same s13
          refine ⟨L1, L2, L3, _, n, rfl, q13.w1, q13.w2, q13.w3, e2, e3, f1, f2, f3, by omega, ⟨r, hr'⟩, fun H14 s14 => ⟨_, rfl, iteF (nx3 _ _ ⟨⟨_, _, _, _, _, _, rfl⟩, s13.trans s14, s14.seq hp13, rfl⟩)⟩⟩
        · obtain ⟨⟨y7, y8, y9, y10, y11, y12, rfl⟩, s13, hp13, rfl⟩ := h13
          walk_at "rd"
          have q13 := q12.same s13
          have hs13 := s13.seq hs12
          have T13 := T12.ext s13
          refine forP (fun p l H' => Same H13 H' ∧ l = sixL.map V.str) (fun R h => ?_)
            (fun p l i σ' H' => (∃ y7 y8 y9 y10 y11 y12, σ' = [some (.ref a), some (.int k), some (.int more), some (.ref O.p), some (.ref L1.p), some (.ref L2.p), some (.ref L3.p), y7, y8, y9, y10, y11, y12]) ∧ Same H13 H' ∧ SqL K H' p l ∧ l = sixL.map V.str)
            (fun p l H' hp g => ⟨⟨_, _, _, _, _, _, rfl⟩, g.1, hp, g.2⟩) (fun p l i σ' H' h => h.2.2.1) (fun p l i v σ' H14 D' hi h14 nx4 rt4 => ?_) (fun p l σ' H14 h14 => ?_)
          · walk_at "rd"
            exact ⟨by omega, fun p H' n' s' e' => h p _ H' (SqL.of e') ⟨s', rfl⟩⟩
          · obtain ⟨⟨y7, y8, y9, y10, y11, y12, rfl⟩, s14, hp14, rfl⟩ := h14
            obtain ⟨z, hz6, rfl⟩ := List.mem_map.mp (List.mem_of_getElem? hi)
            have zn : nameZ z = true := six_names z hz6
            walk_at "rd"
            have q14 := q13.same s14
            refine ⟨_, _, q14.w2.top, fw_no _ _ _ (by decide) (by decide) (by decide), use_standing q14.w2 zn fun H15 s15 => ⟨_, _, (q14.same s15).w1.top, fw_no _ _ _ (by decide) (by decide) (by decide), use_standing (q14.same s15).w1 zn fun H16 s16 => ?_⟩⟩
            have st2 : standingM L2.wd z = 0 - standingM L1.wd z := by
              rw [e2]
              have := standing_map tw_turn L1.wd z
              have h2 : standingM (turnW L1.wd) z = -1 * standingM L1.wd z := this
              omega
            have st3 : standingM L3.wd (nameS z) = standingM L1.wd z := by
              rw [e3]
              have := standing_map tw_name L1.wd z
              rw [Int.one_mul] at this
              exact this
            refine ⟨_, rfl, rfl, ?_⟩
            rw [st2, decide_eq_true rfl]
            have q16 := q14.same (s15.trans s16)
            refine iteF ⟨_, _, q16.w3.top, fw_no _ _ _ (by decide) (by decide) (by decide), z, rfl, fun H17 s17 => use_standing (q16.same s17).w3 ((tw_name.nm z).trans zn) fun H18 s18 => ⟨_, _, (q16.same (s17.trans s18)).w1.top, fw_no _ _ _ (by decide) (by decide) (by decide), use_standing (q16.same (s17.trans s18)).w1 zn fun H19 s19 => ⟨rfl, ?_⟩⟩⟩
            rw [st3, decide_eq_true rfl]
            have s1419 := s15.trans (s16.trans (s17.trans (s18.trans s19)))
            exact iteF (nx4 _ _ ⟨⟨_, _, _, _, _, _, rfl⟩, s14.trans s1419, s1419.seq hp14, rfl⟩)
          · obtain ⟨⟨y7, y8, y9, y10, y11, y12, rfl⟩, s14, hp14, rfl⟩ := h14
            walk_at "rd"
            have q14 := q13.same s14
            have hs14 := s14.seq hs13
            have T14 := T13.ext s14
            obtain ⟨ys, oy⟩ := ord_ex L1.wd "best" (ns := sortI (repliesR L1.rows 0)) ((sortI_perm _).nodup_iff.mpr (replies_nodup f1.G.wf.nk 0))
            have len1 : ∀ {l : List Int}, (∀ n ∈ l, n ∈ L1.rows.map (·.1)) → l.Nodup → l.length < 1000 := fun {l} h1 h2 => by
              have h3 := sub_len h2 h1
              have h4 := f1.G.len
              have h5 : (L1.rows.map (·.1)).length = L1.wd.rows.length := List.length_map _
              omega
            have key0 : ∀ n ∈ sortI (L1.rows.map (·.1)), n ∈ L1.rows.map (·.1) := fun n hn => (sortI_perm _).mem_iff.mp hn
            have rep0 : ∀ n ∈ sortI (repliesR L1.rows 0), n ∈ L1.rows.map (·.1) := fun n hn => by
              have hn := (sortI_perm _).mem_iff.mp hn
              unfold repliesR at hn
              obtain ⟨p, hp, rfl⟩ := List.mem_map.mp hn
              exact List.mem_map.mpr ⟨p, (List.mem_filter.mp hp).1, rfl⟩
            have bel0 : ∀ n ∈ sortI (beneathR L1.rows 0), n ∈ L1.rows.map (·.1) := fun n hn => (List.mem_filter.mp ((sortI_perm _).mem_iff.mp hn)).1
            refine ⟨T14, fun H15 x15 T15 => ⟨[sortI (L1.rows.map (·.1)), sortI (repliesR L1.rows 0), sortI (beneathR L1.rows 0), ys], fun l hl => ?_, by show 4 < 1000; omega, fun H16 R s16 kk => ?_, fun H16 s16 => ⟨_, rfl, iteF (nx1 _ _ ⟨⟨_, _, _, _, _, _, _, _, _, _, _, _, rfl⟩, s16.seq ((LK.ext x15).seq hs14), T15.ext s16⟩)⟩⟩⟩
            · simp only [List.mem_cons, List.not_mem_nil, or_false] at hl
              rcases hl with rfl | rfl | rfl | rfl
              · exact len1 key0 ((sortI_perm _).nodup_iff.mpr f1.G.wf.nk)
              · exact len1 rep0 ((sortI_perm _).nodup_iff.mpr (replies_nodup f1.G.wf.nk 0))
              · exact len1 bel0 ((sortI_perm _).nodup_iff.mpr (f1.G.wf.nk.sublist List.filter_sublist))
              · exact len1 (fun n hn => rep0 n (oy.perm.mem_iff.mp hn)) (oy.perm.nodup_iff.mpr ((sortI_perm _).nodup_iff.mpr (replies_nodup f1.G.wf.nk 0)))
            · have q16 := (q14.ext x15).same s16
              walk_at "rd"
              refine ⟨_, _, q16.w1.top, fw_no _ _ _ (by decide) (by decide) (by decide), use_numbers q16.w1 f1.G fun u1 Ha na sa ea => ⟨_, _, (q16.same sa).w1.top, fw_no _ _ _ (by decide) (by decide) (by decide), use_replies (q16.same sa).w1 f1.G fun u2 Hb nb sb eb => ⟨_, _, (q16.same (sa.trans sb)).w1.top, fw_no _ _ _ (by decide) (by decide) (by decide), use_below (q16.same (sa.trans sb)).w1 f1.G (.inl rfl) fun u3 Hc nc sc ec => ?_⟩⟩⟩
              refine use_ord (q16.same (sa.trans (sb.trans sc))).w1 f1.G (f1.bnd (by omega)) (.inl rfl) (by simp [measL]) fun ys2 oy2 u4 Hd nd sd ed => ⟨by omega, fun u5 He ne se ee => ?_⟩
              rw [oy2.eq oy] at ed
              exact kk u5 _ He (newLL4 na sa ea nb sb eb nc sc ec nd sd ed ne se ee) rfl
    · obtain ⟨⟨x1, x2, x3, x4, x5, x6, x7, x8, x9, x10, x11, x12, rfl⟩, hs1, hT1⟩ := h1
      walk_at "rd"
      exact q _
end
end Vw
namespace Vw
open PySem PySem.Spec PyProof.Rows L2
def fa0 : List He.Fa := [.exc "WoodError", .glo "WoodError", .exc "BadName", .glo "BadName", .exc "NoSaying", .glo "NoSaying", .exc "BadText", .glo "BadText", .exc "Full", .glo "Full", .exc "NotYours", .glo "NotYours", .exc "BadNumber", .glo "BadNumber", .glo "Saying", .cls "Saying", .mkr "Saying", .noat "Saying" "by", .noat "Saying" "under", .noat "Saying" "text", .noat "Saying" "time", .noat "Saying" "votes", .noat "Saying" "is_struck", .glo "Wood", .cls "Wood", .mkr "Wood", .noat "Wood" "sayings", .noat "Wood" "came", .noat "Wood" "clock", .glo "is_count"]
def fa1 : List He.Fa := [.glo "need_name", .glo "need_text", .meth "Saying" "ups", .meth "Saying" "downs", .meth "Saying" "points", .meth "Wood" "tick", .meth "Wood" "saying", .meth "Wood" "numbers", .meth "Wood" "deep", .meth "Wood" "say", .meth "Wood" "look", .meth "Wood" "own", .meth "Wood" "change", .meth "Wood" "replies", .meth "Wood" "strike", .meth "Wood" "vote", .meth "Wood" "votes_of", .meth "Wood" "below", .meth "Wood" "many", .meth "Wood" "standing", .glo "need_measure", .glo "worth", .glo "is_ahead", .glo "in_order", .glo "ordered", .glo "_law_cell", .glo "_law_drawn", .glo "_law_word", .glo "_law_told", .glo "_law_any_name"]
def fa2 : List He.Fa := [.glo "_law_any_text", .glo "_law_own", .glo "_law_beneath", .glo "_law_above", .glo "_law_points", .glo "_law_say", .glo "_law_strike", .glo "_law_act", .glo "_law_do", .glo "_law_deed", .glo "_law_copy", .glo "_law_spoil", .glo "_law_again", .glo "_law_other_name", .glo "_law_named", .glo "_law_turned", .glo "_law_two_right", .glo "law", .free "ValueError", .free "all", .free "bool", .free "dict", .free "int", .free "isinstance", .free "len", .free "list", .free "max", .free "min", .free "ord", .free "range"]
def fa3 : List He.Fa := [.free "sorted", .free "str", .free "sum", .free "tuple", .str "SMALL" "abcdefghijklmnopqrstuvwxyz", .int "MOST_WORD" 6, .int "MOST_TEXT" 30, .int "MOST_SAYINGS" 60, .int "MOST_DEEP" 8, .int "MOST_TICKS" 1000, .int "BARRED" 37, .glo "MEASURES"]
def fa : List He.Fa := fa0 ++ fa1 ++ fa2 ++ fa3
def fn0 : List He.DefD := [⟨("is_count", none), "is_count", "is_count", defArgs s_is_count, defBody s_is_count, defScope s_is_count, [], []⟩, ⟨("need_name", none), "need_name", "need_name", defArgs s_need_name, defBody s_need_name, defScope s_need_name, [], []⟩, ⟨("need_text", none), "need_text", "need_text", defArgs s_need_text, defBody s_need_text, defScope s_need_text, [], []⟩, ⟨("Saying", some "__init__"), "__init__", "Saying.__init__", defArgs s_Saying___init__, defBody s_Saying___init__, defScope s_Saying___init__, [], []⟩, ⟨("Saying", some "ups"), "ups", "Saying.ups", defArgs s_Saying_ups, defBody s_Saying_ups, defScope s_Saying_ups, [], []⟩, ⟨("Saying", some "downs"), "downs", "Saying.downs", defArgs s_Saying_downs, defBody s_Saying_downs, defScope s_Saying_downs, [], []⟩, ⟨("Saying", some "points"), "points", "Saying.points", defArgs s_Saying_points, defBody s_Saying_points, defScope s_Saying_points, [], []⟩, ⟨("Wood", some "__init__"), "__init__", "Wood.__init__", defArgs s_Wood___init__, defBody s_Wood___init__, defScope s_Wood___init__, [], []⟩, ⟨("Wood", some "tick"), "tick", "Wood.tick", defArgs s_Wood_tick, defBody s_Wood_tick, defScope s_Wood_tick, [], []⟩, ⟨("Wood", some "saying"), "saying", "Wood.saying", defArgs s_Wood_saying, defBody s_Wood_saying, defScope s_Wood_saying, [], []⟩, ⟨("Wood", some "numbers"), "numbers", "Wood.numbers", defArgs s_Wood_numbers, defBody s_Wood_numbers, defScope s_Wood_numbers, [], []⟩, ⟨("Wood", some "deep"), "deep", "Wood.deep", defArgs s_Wood_deep, defBody s_Wood_deep, defScope s_Wood_deep, [], []⟩, ⟨("Wood", some "say"), "say", "Wood.say", defArgs s_Wood_say, defBody s_Wood_say, defScope s_Wood_say, [], []⟩, ⟨("Wood", some "look"), "look", "Wood.look", defArgs s_Wood_look, defBody s_Wood_look, defScope s_Wood_look, [], []⟩, ⟨("Wood", some "own"), "own", "Wood.own", defArgs s_Wood_own, defBody s_Wood_own, defScope s_Wood_own, [], []⟩, ⟨("Wood", some "change"), "change", "Wood.change", defArgs s_Wood_change, defBody s_Wood_change, defScope s_Wood_change, [], []⟩, ⟨("Wood", some "replies"), "replies", "Wood.replies", defArgs s_Wood_replies, defBody s_Wood_replies, defScope s_Wood_replies, [], []⟩, ⟨("Wood", some "strike"), "strike", "Wood.strike", defArgs s_Wood_strike, defBody s_Wood_strike, defScope s_Wood_strike, [], []⟩, ⟨("Wood", some "vote"), "vote", "Wood.vote", defArgs s_Wood_vote, defBody s_Wood_vote, defScope s_Wood_vote, [], []⟩, ⟨("Wood", some "votes_of"), "votes_of", "Wood.votes_of", defArgs s_Wood_votes_of, defBody s_Wood_votes_of, defScope s_Wood_votes_of, [], []⟩, ⟨("Wood", some "below"), "below", "Wood.below", defArgs s_Wood_below, defBody s_Wood_below, defScope s_Wood_below, [], []⟩, ⟨("Wood", some "many"), "many", "Wood.many", defArgs s_Wood_many, defBody s_Wood_many, defScope s_Wood_many, [], []⟩, ⟨("Wood", some "standing"), "standing", "Wood.standing", defArgs s_Wood_standing, defBody s_Wood_standing, defScope s_Wood_standing, [], []⟩, ⟨("need_measure", none), "need_measure", "need_measure", defArgs s_need_measure, defBody s_need_measure, defScope s_need_measure, [], []⟩, ⟨("worth", none), "worth", "worth", defArgs s_worth, defBody s_worth, defScope s_worth, [], []⟩, ⟨("is_ahead", none), "is_ahead", "is_ahead", defArgs s_is_ahead, defBody s_is_ahead, defScope s_is_ahead, [], []⟩, ⟨("in_order", none), "in_order", "in_order", defArgs s_in_order, defBody s_in_order, defScope s_in_order, [], []⟩, ⟨("ordered", none), "ordered", "ordered", defArgs s_ordered, defBody s_ordered, defScope s_ordered, [], []⟩, ⟨("_law_cell", none), "_law_cell", "_law_cell", defArgs s__law_cell, defBody s__law_cell, defScope s__law_cell, [], []⟩, ⟨("_law_drawn", none), "_law_drawn", "_law_drawn", defArgs s__law_drawn, defBody s__law_drawn, defScope s__law_drawn, [], []⟩]
def fn1 : List He.DefD := [⟨("_law_word", none), "_law_word", "_law_word", defArgs s__law_word, defBody s__law_word, defScope s__law_word, [], []⟩, ⟨("_law_told", none), "_law_told", "_law_told", defArgs s__law_told, defBody s__law_told, defScope s__law_told, [], []⟩, ⟨("_law_any_name", none), "_law_any_name", "_law_any_name", defArgs s__law_any_name, defBody s__law_any_name, defScope s__law_any_name, [], []⟩, ⟨("_law_any_text", none), "_law_any_text", "_law_any_text", defArgs s__law_any_text, defBody s__law_any_text, defScope s__law_any_text, [], []⟩, ⟨("_law_own", none), "_law_own", "_law_own", defArgs s__law_own, defBody s__law_own, defScope s__law_own, [], []⟩, ⟨("_law_beneath", none), "_law_beneath", "_law_beneath", defArgs s__law_beneath, defBody s__law_beneath, defScope s__law_beneath, [], []⟩, ⟨("_law_above", none), "_law_above", "_law_above", defArgs s__law_above, defBody s__law_above, defScope s__law_above, [], []⟩, ⟨("_law_points", none), "_law_points", "_law_points", defArgs s__law_points, defBody s__law_points, defScope s__law_points, [], []⟩, ⟨("_law_say", none), "_law_say", "_law_say", defArgs s__law_say, defBody s__law_say, defScope s__law_say, [], []⟩, ⟨("_law_strike", none), "_law_strike", "_law_strike", defArgs s__law_strike, defBody s__law_strike, defScope s__law_strike, [], []⟩, ⟨("_law_act", none), "_law_act", "_law_act", defArgs s__law_act, defBody s__law_act, defScope s__law_act, [], []⟩, ⟨("_law_do", none), "_law_do", "_law_do", defArgs s__law_do, defBody s__law_do, defScope s__law_do, [], []⟩, ⟨("_law_deed", none), "_law_deed", "_law_deed", defArgs s__law_deed, defBody s__law_deed, defScope s__law_deed, [], []⟩, ⟨("_law_copy", none), "_law_copy", "_law_copy", defArgs s__law_copy, defBody s__law_copy, defScope s__law_copy, [], []⟩, ⟨("_law_spoil", none), "_law_spoil", "_law_spoil", defArgs s__law_spoil, defBody s__law_spoil, defScope s__law_spoil, [], []⟩, ⟨("_law_again", none), "_law_again", "_law_again", defArgs s__law_again, defBody s__law_again, defScope s__law_again, [], []⟩, ⟨("_law_other_name", none), "_law_other_name", "_law_other_name", defArgs s__law_other_name, defBody s__law_other_name, defScope s__law_other_name, [], []⟩, ⟨("_law_named", none), "_law_named", "_law_named", defArgs s__law_named, defBody s__law_named, defScope s__law_named, [], []⟩, ⟨("_law_turned", none), "_law_turned", "_law_turned", defArgs s__law_turned, defBody s__law_turned, defScope s__law_turned, [], []⟩, ⟨("_law_two_right", none), "_law_two_right", "_law_two_right", defArgs s__law_two_right, defBody s__law_two_right, defScope s__law_two_right, [], []⟩, ⟨("law", none), "law", "law", defArgs s_law, defBody s_law, defScope s_law, [], []⟩]
def fn : List He.DefD := fn0 ++ fn1
def tf : List He.Defn := [("_law_do", none), ("law", none)]
def exB (K : PySem.W.Frag) : Bool := He.tupB K "MEASURES" [.str "new", .str "old", .str "best", .str "warm", .str "torn", .str "sure"] && (wordB K errs && (decide (((tabs K).map (·.1)).Nodup)
))
theorem txt_of {K : PySem.W.Frag} {w : World} {h base : Heap} {mg : Str → Option Value} (X : K.In h) (G : h.Ns mainGlobals mg) (c : He.SaysX fa fn [] tf exB w h K) (tb : ∀ p ∈ tf, LamX.TabB base mg (He.cT K p).1 (He.cT K p).2) : Txt K mg base := by
  have d : He.SaysD fa fn K := c.t.d
  obtain ⟨ex0, more0⟩ := He.ba c.more
  obtain ⟨ex1, more1⟩ := He.ba more0
  have ex2 := more1
  exact {
    x_WoodError := by obtain ⟨a, b, c, e⟩ := He.exc_ok (d.fact 0 rfl); exact ⟨He.glo_ok X G (d.fact 1 rfl), a, b, c, e⟩
    x_BadName := by obtain ⟨a, b, c, e⟩ := He.exc_ok (d.fact 2 rfl); exact ⟨He.glo_ok X G (d.fact 3 rfl), a, b, c, e⟩
    x_NoSaying := by obtain ⟨a, b, c, e⟩ := He.exc_ok (d.fact 4 rfl); exact ⟨He.glo_ok X G (d.fact 5 rfl), a, b, c, e⟩
    x_BadText := by obtain ⟨a, b, c, e⟩ := He.exc_ok (d.fact 6 rfl); exact ⟨He.glo_ok X G (d.fact 7 rfl), a, b, c, e⟩
    x_Full := by obtain ⟨a, b, c, e⟩ := He.exc_ok (d.fact 8 rfl); exact ⟨He.glo_ok X G (d.fact 9 rfl), a, b, c, e⟩
    x_NotYours := by obtain ⟨a, b, c, e⟩ := He.exc_ok (d.fact 10 rfl); exact ⟨He.glo_ok X G (d.fact 11 rfl), a, b, c, e⟩
    x_BadNumber := by obtain ⟨a, b, c, e⟩ := He.exc_ok (d.fact 12 rfl); exact ⟨He.glo_ok X G (d.fact 13 rfl), a, b, c, e⟩
    c_Saying := ⟨He.glo_ok X G (d.fact 14 rfl), He.cls_ok (d.fact 15 rfl), He.mkr_ok (d.fact 16 rfl)⟩
    n_Saying_by := He.noat_ok (d.fact 17 rfl)
    n_Saying_under := He.noat_ok (d.fact 18 rfl)
    n_Saying_text := He.noat_ok (d.fact 19 rfl)
    n_Saying_time := He.noat_ok (d.fact 20 rfl)
    n_Saying_votes := He.noat_ok (d.fact 21 rfl)
    n_Saying_is_struck := He.noat_ok (d.fact 22 rfl)
    c_Wood := ⟨He.glo_ok X G (d.fact 23 rfl), He.cls_ok (d.fact 24 rfl), He.mkr_ok (d.fact 25 rfl)⟩
    n_Wood_sayings := He.noat_ok (d.fact 26 rfl)
    n_Wood_came := He.noat_ok (d.fact 27 rfl)
    n_Wood_clock := He.noat_ok (d.fact 28 rfl)
    g_is_count := He.glo_ok X G (d.fact 29 rfl)
    f_is_count := d.def_ 0 rfl
    g_need_name := He.glo_ok X G (d.fact 30 rfl)
    f_need_name := d.def_ 1 rfl
    g_need_text := He.glo_ok X G (d.fact 31 rfl)
    f_need_text := d.def_ 2 rfl
    f_Saying___init__ := d.def_ 3 rfl
    m_Saying_ups := He.meth_ok (d.fact 32 rfl)
    f_Saying_ups := d.def_ 4 rfl
    m_Saying_downs := He.meth_ok (d.fact 33 rfl)
    f_Saying_downs := d.def_ 5 rfl
    m_Saying_points := He.meth_ok (d.fact 34 rfl)
    f_Saying_points := d.def_ 6 rfl
    f_Wood___init__ := d.def_ 7 rfl
    m_Wood_tick := He.meth_ok (d.fact 35 rfl)
    f_Wood_tick := d.def_ 8 rfl
    m_Wood_saying := He.meth_ok (d.fact 36 rfl)
    f_Wood_saying := d.def_ 9 rfl
    m_Wood_numbers := He.meth_ok (d.fact 37 rfl)
    f_Wood_numbers := d.def_ 10 rfl
    m_Wood_deep := He.meth_ok (d.fact 38 rfl)
    f_Wood_deep := d.def_ 11 rfl
    m_Wood_say := He.meth_ok (d.fact 39 rfl)
    f_Wood_say := d.def_ 12 rfl
    m_Wood_look := He.meth_ok (d.fact 40 rfl)
    f_Wood_look := d.def_ 13 rfl
    m_Wood_own := He.meth_ok (d.fact 41 rfl)
    f_Wood_own := d.def_ 14 rfl
    m_Wood_change := He.meth_ok (d.fact 42 rfl)
    f_Wood_change := d.def_ 15 rfl
    m_Wood_replies := He.meth_ok (d.fact 43 rfl)
    f_Wood_replies := d.def_ 16 rfl
    m_Wood_strike := He.meth_ok (d.fact 44 rfl)
    f_Wood_strike := d.def_ 17 rfl
    m_Wood_vote := He.meth_ok (d.fact 45 rfl)
    f_Wood_vote := d.def_ 18 rfl
    m_Wood_votes_of := He.meth_ok (d.fact 46 rfl)
    f_Wood_votes_of := d.def_ 19 rfl
    m_Wood_below := He.meth_ok (d.fact 47 rfl)
    f_Wood_below := d.def_ 20 rfl
    m_Wood_many := He.meth_ok (d.fact 48 rfl)
    f_Wood_many := d.def_ 21 rfl
    m_Wood_standing := He.meth_ok (d.fact 49 rfl)
    f_Wood_standing := d.def_ 22 rfl
    g_need_measure := He.glo_ok X G (d.fact 50 rfl)
    f_need_measure := d.def_ 23 rfl
    g_worth := He.glo_ok X G (d.fact 51 rfl)
    f_worth := d.def_ 24 rfl
    g_is_ahead := He.glo_ok X G (d.fact 52 rfl)
    f_is_ahead := d.def_ 25 rfl
    g_in_order := He.glo_ok X G (d.fact 53 rfl)
    f_in_order := d.def_ 26 rfl
    g_ordered := He.glo_ok X G (d.fact 54 rfl)
    f_ordered := d.def_ 27 rfl
    g__law_cell := He.glo_ok X G (d.fact 55 rfl)
    f__law_cell := d.def_ 28 rfl
    g__law_drawn := He.glo_ok X G (d.fact 56 rfl)
    f__law_drawn := d.def_ 29 rfl
    g__law_word := He.glo_ok X G (d.fact 57 rfl)
    f__law_word := d.def_ 30 rfl
    g__law_told := He.glo_ok X G (d.fact 58 rfl)
    f__law_told := d.def_ 31 rfl
    g__law_any_name := He.glo_ok X G (d.fact 59 rfl)
    f__law_any_name := d.def_ 32 rfl
    g__law_any_text := He.glo_ok X G (d.fact 60 rfl)
    f__law_any_text := d.def_ 33 rfl
    g__law_own := He.glo_ok X G (d.fact 61 rfl)
    f__law_own := d.def_ 34 rfl
    g__law_beneath := He.glo_ok X G (d.fact 62 rfl)
    f__law_beneath := d.def_ 35 rfl
    g__law_above := He.glo_ok X G (d.fact 63 rfl)
    f__law_above := d.def_ 36 rfl
    g__law_points := He.glo_ok X G (d.fact 64 rfl)
    f__law_points := d.def_ 37 rfl
    g__law_say := He.glo_ok X G (d.fact 65 rfl)
    f__law_say := d.def_ 38 rfl
    g__law_strike := He.glo_ok X G (d.fact 66 rfl)
    f__law_strike := d.def_ 39 rfl
    g__law_act := He.glo_ok X G (d.fact 67 rfl)
    f__law_act := d.def_ 40 rfl
    g__law_do := He.glo_ok X G (d.fact 68 rfl)
    f__law_do := d.def_ 41 rfl
    g__law_deed := He.glo_ok X G (d.fact 69 rfl)
    f__law_deed := d.def_ 42 rfl
    g__law_copy := He.glo_ok X G (d.fact 70 rfl)
    f__law_copy := d.def_ 43 rfl
    g__law_spoil := He.glo_ok X G (d.fact 71 rfl)
    f__law_spoil := d.def_ 44 rfl
    g__law_again := He.glo_ok X G (d.fact 72 rfl)
    f__law_again := d.def_ 45 rfl
    g__law_other_name := He.glo_ok X G (d.fact 73 rfl)
    f__law_other_name := d.def_ 46 rfl
    g__law_named := He.glo_ok X G (d.fact 74 rfl)
    f__law_named := d.def_ 47 rfl
    g__law_turned := He.glo_ok X G (d.fact 75 rfl)
    f__law_turned := d.def_ 48 rfl
    g__law_two_right := He.glo_ok X G (d.fact 76 rfl)
    f__law_two_right := d.def_ 49 rfl
    g_law := He.glo_ok X G (d.fact 77 rfl)
    f_law := d.def_ 50 rfl
    b_ValueError := He.free_ok X G (d.fact 78 rfl)
    b_all := He.free_ok X G (d.fact 79 rfl)
    b_bool := He.free_ok X G (d.fact 80 rfl)
    b_dict := He.free_ok X G (d.fact 81 rfl)
    b_int := He.free_ok X G (d.fact 82 rfl)
    b_isinstance := He.free_ok X G (d.fact 83 rfl)
    b_len := He.free_ok X G (d.fact 84 rfl)
    b_list := He.free_ok X G (d.fact 85 rfl)
    b_max := He.free_ok X G (d.fact 86 rfl)
    b_min := He.free_ok X G (d.fact 87 rfl)
    b_ord := He.free_ok X G (d.fact 88 rfl)
    b_range := He.free_ok X G (d.fact 89 rfl)
    b_sorted := He.free_ok X G (d.fact 90 rfl)
    b_str := He.free_ok X G (d.fact 91 rfl)
    b_sum := He.free_ok X G (d.fact 92 rfl)
    b_tuple := He.free_ok X G (d.fact 93 rfl)
    k_SMALL := by obtain ⟨t, e⟩ := He.str_ok X G (d.fact 94 rfl); exact ⟨_, e, _, rfl⟩
    k_MOST_WORD := by obtain ⟨t, e⟩ := He.int_ok X G (d.fact 95 rfl); exact ⟨_, e, _, rfl⟩
    k_MOST_TEXT := by obtain ⟨t, e⟩ := He.int_ok X G (d.fact 96 rfl); exact ⟨_, e, _, rfl⟩
    k_MOST_SAYINGS := by obtain ⟨t, e⟩ := He.int_ok X G (d.fact 97 rfl); exact ⟨_, e, _, rfl⟩
    k_MOST_DEEP := by obtain ⟨t, e⟩ := He.int_ok X G (d.fact 98 rfl); exact ⟨_, e, _, rfl⟩
    k_MOST_TICKS := by obtain ⟨t, e⟩ := He.int_ok X G (d.fact 99 rfl); exact ⟨_, e, _, rfl⟩
    k_BARRED := by obtain ⟨t, e⟩ := He.int_ok X G (d.fact 100 rfl); exact ⟨_, e, _, rfl⟩
    k_MEASURES := ⟨_, He.glo_ok X G (d.fact 101 rfl), rfl⟩
    u_MEASURES := fun H => He.tupB_ok (vs := [.str "new", .str "old", .str "best", .str "warm", .str "torn", .str "sure"]) ex0 H
    wd := wordB_ok ex1
    tn := of_decide_eq_true ex2
    tb__law_do := tb ("_law_do", none) (by unfold tf; simp)
    tb_law := tb ("law", none) (by unfold tf; simp)
  }

abbrev R : PySem.W.OpenRow := PySem.W.OpenLaw.row PySem.Challenge.rw_votewood_k21_whole_votes_turned_about
abbrev hk : PySem.W.Hook := He.hookX 4 fa fn [] tf exB
def ob (s : PySem.W.SharedT) : He.AlX := He.obsX 4 fa fn [] tf exB (HandSHeadRun.getT s)
theorem ob_eq (s : PySem.W.SharedT) : ob s = hk.obs s.abs := He.obsX_eq (HandSHeadRun.getT_eq s)
def nm0 : List PySem.Str := ["_wall", "WoodError", "BadName", "NoSaying", "BadText", "Full", "NotYours", "BadNumber", "SMALL", "MOST_WORD", "MOST_TEXT", "MOST_SAYINGS", "MOST_DEEP", "MOST_TICKS", "BARRED", "is_count", "need_name", "need_text", "Saying", "Wood", "MEASURES", "need_measure", "worth", "is_ahead", "in_order", "ordered", "_law_cell", "_law_drawn", "_law_word", "_law_told"]
def nm1 : List PySem.Str := ["_law_any_name", "_law_any_text", "_law_own", "_law_beneath", "_law_above", "_law_points", "_law_say", "_law_strike", "_law_act", "_law_do", "_law_deed", "_law_copy", "_law_spoil", "_law_again", "_law_other_name", "_law_named", "_law_turned", "_law_two_right"]
def names : List PySem.Str := nm0 ++ nm1
theorem run (w : World) : HandSHeadRun.RunEq R (PySem.W.view R.prog [52]) hk ob 30000 names w := by
  intro os
  kernel_rfl
theorem tabs_start {K : PySem.W.Frag} {H : Hp} (h : ∀ p ∈ tf.map (He.cT K), H p.2 = some (.tbl #[])) : LamX.Tabs (tabs K) H := fun p hp => LamX.TabS.nil (by
  simp only [tabs, List.mem_cons, List.not_mem_nil, or_false] at hp
  first
  | (subst hp; exact h _ (List.mem_map.mpr ⟨_, by unfold tf; simp, rfl⟩))
  | (rcases hp with rfl | rfl <;> (exact h _ (List.mem_map.mpr ⟨_, by unfold tf; simp, rfl⟩))))
theorem law_at {K : PySem.W.Frag} {w : World} {h : Heap} {mg : Str → Option Value} {f : Addr} (X : K.In h) (G : h.Ns mainGlobals mg) (hf : mg ("law" : Str) = some (.ref f)) (c : He.SaysX fa fn [] tf exB w h K) :
    LamX.LawAtS PySem.Challenge.rw_votewood_k21_whole_votes_turned_about w K (L2N.CX (PySem.Challenge.rw_votewood_k21_whole_votes_turned_about).prog w) 25 63 "script" mg f h := by
  have g := hf.symm.trans (He.glo_ok X G (c.t.d.fact 77 (f := .glo "law") rfl))
  cases g
  obtain ⟨fd, F⟩ := c.t.d.def_ 50 (d := ⟨("law", none), "law", "law", defArgs s_law, defBody s_law, defScope s_law, [], []⟩) rfl
  have b := FunD.bindsA (ps := ["script"]) F be_law
  refine ⟨fd, tf.map (He.cT K), spLaw K, fun p hp => ?_, fun p hp => ?_, fun p hp => ?_, fun s u => b s [u] rfl, fun H a ns hl hz hH hS => ⟨a, ns, rfl, hS, hl, fun z hz1 => ?_, tabs_start hH, fun _ => rfl⟩, fun base KB GB hB => D_law F (txt_of X G c fun p hp => hB _ (List.mem_map.mpr ⟨p, hp, rfl⟩))⟩
  · obtain ⟨q, hq, rfl⟩ := List.mem_map.mp hp
    exact c.empty q hq
  · obtain ⟨q, hq, rfl⟩ := List.mem_map.mp hp
    exact c.out q hq
  · obtain ⟨q, hq, rfl⟩ := List.mem_map.mp hp
    exact PySem.W.codeHd_of_K X (c.hd q hq)
  · exact Nat.lt_of_lt_of_le (natAbs_lt_pow_bits z) (Nat.pow_le_pow_right (by omega) (Nat.le_trans (hz z hz1) (by unfold bigC; omega)))
end Vw
open PySem PySem.W PySem.Calls PyProof.Rows
theorem PySem.Challenge.cw_votewood_k21_whole_votes_turned_about_holds : PySem.Challenge.rw_votewood_k21_whole_votes_turned_about.Holds := by
  w_on; o_law
  refine HandSHeadRun.head_any (r := Vw.R) (q := view Vw.R.prog [52]) (H := Vw.hk) (ob := Vw.ob) (M := 30000) (loose := Vw.names) (d := HandSHeadRun.topDef Vw.R.prog 52) (kwd := []) Vw.ob_eq
    (by kernel_rfl) (fun s => by kernel_rfl) Vw.run (by kernel_rfl) (by kernel_rfl) (by kernel_rfl) (by rfl) (by first | assumption | decide +kernel) (by decide +kernel) ⟨rfl, rfl, rfl, rfl, rfl, by decide +kernel⟩ ?hw ?hc
  case hw => w_witness2
  case hc =>
    refine LamX.walk_ofTsE (l := PySem.Challenge.rw_votewood_k21_whole_votes_turned_about) (n := 63) (k := 25) (x := "script") (CX := fun w => L2N.CX (PySem.Challenge.rw_votewood_k21_whole_votes_turned_about).prog w) rfl (by decide) (by kernel_rfl) ⟨rfl, by decide, by decide⟩ ?F (fun w H s e s' z => by
      obtain ⟨_, _, _, _, _, _, _, _, _, _, _, _, z⟩ := z
      exact z)
    intro w mg fa h Y G hmg0
    obtain ⟨K, KX, c⟩ := Y
    have hmg : mg ("law" : PySem.Str) = some (.ref fa) := by
      have e : (HandSHeadRun.topDef Vw.R.prog 52).name = ("law" : PySem.Str) := by kernel_rfl
      rw [← e]
      exact hmg0
    exact ⟨K, KX, Vw.law_at KX G hmg c⟩
