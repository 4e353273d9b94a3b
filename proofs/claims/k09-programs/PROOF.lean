import PyProof.Rows.All
import Wide.All
import OpenK.AllK
import Wide.FinOn
import PyProof.EqAt
import PyProof.EqKinds
import PyProof.TupleCall
import KE.KStateDown
import HandS.ForMost
import HandS.More
import HandS.Wide
import HandS.IsInst
import HandS.Zip
import HandS.TupAny
import HandS.Steps
import HandS.Exc
import HandS.Defaults
import HandS.Style
import HandS.Head0
import HandS.Head1
import HandS.Head2
import HandS.HeadEnd
import HandS.HeadHook1
import HandS.HeadHook2
import HandS.HeadHook3
import HandS.HeadHook4
import HandS.HeadNt
import HandS.ExcInit
import KE.KExcSuper
import KE.KExcInit
import PyProof.ExcBaseAll.IndexError
import PyProof.ExcBaseAll.LookupError
import KE.KSuper
import HandS.ExcField
import HandS.FStr
import HandS.TryMany
import HandS.ExcOwn
import HandS.ClsMeth
import HandS.Star
import HandS.Codes
import HandS.Property
import KE.KOpsOwn
import HandS.HeadWalk
import HandS.TupMul
import HandS.Set
import HandS.SetFor
import HandS.Strs
import HandS.SetKeys
import PyProof.Rows.SortShellAny
import PyProof.WalksMore
import PyProof.CollectIter
import PyProof.TupleIter
import KE.GoesEnum
import KE.GoesMore
import HandS.Iter
import HandS.Walk
import HandS.OwnEq
import KE.KDictKeyed
import KE.KeyNested
import HandS.DictComp
import HandS.Conv
import OpenK.KOps
import PySem.Challenge.RW_addpath_k09_programs_and_their_parts
set_option Elab.async false
set_option linter.all false
set_option maxRecDepth 100000
set_option maxHeartbeats 4000000
/-! small things that all defs lean on -/
namespace Bx
open PySem PySem.Spec PyProof.Rows L2
/-- what the head has told: the facts of names, the defs -/
structure Env (fal : List He.Fa) (fnl : List He.DefD) (fna : List He5.DefA) (xf : PySem.W.Frag → Bool) (K : PySem.W.Frag) (mg : Str → Option Value) : Prop where
  ex : ∃ h : Heap, K.In h ∧ h.Ns mainGlobals mg
  says : He.SaysD fal fnl K
  saysA : He5.SaysA [] fna K
  more : xf K = true
theorem Env.ok {fal : List He.Fa} {fnl : List He.DefD} {fna : List He5.DefA} {xf : PySem.W.Frag → Bool} {K : PySem.W.Frag} {mg : Str → Option Value} (E : Env fal fnl fna xf K mg) {f : He.Fa} (h : f ∈ fal) : f.ok K = true := by
  obtain ⟨i, hi⟩ := List.getElem?_of_mem h
  exact E.says.fact i hi
theorem Env.glo {fal : List He.Fa} {fnl : List He.DefD} {fna : List He5.DefA} {xf : PySem.W.Frag → Bool} {K : PySem.W.Frag} {mg : Str → Option Value} (E : Env fal fnl fna xf K mg) (x : Str) (h : He.Fa.glo x ∈ fal) : mg x = some (.ref (He.ga K x)) := by
  obtain ⟨hp, X, G⟩ := E.ex
  exact He.glo_ok X G (E.ok h)
theorem Env.free {fal : List He.Fa} {fnl : List He.DefD} {fna : List He5.DefA} {xf : PySem.W.Frag → Bool} {K : PySem.W.Frag} {mg : Str → Option Value} (E : Env fal fnl fna xf K mg) (x : Str) (h : He.Fa.free x ∈ fal) : mg x = none := by
  obtain ⟨hp, X, G⟩ := E.ex
  exact He.free_ok X G (E.ok h)
theorem Env.intc {fal : List He.Fa} {fnl : List He.DefD} {fna : List He5.DefA} {xf : PySem.W.Frag → Bool} {K : PySem.W.Frag} {mg : Str → Option Value} (E : Env fal fnl fna xf K mg) {x : Str} {i : Int} (h : He.Fa.int x i ∈ fal) : ∃ t, mg x = some (.int i t) := by
  obtain ⟨hp, X, G⟩ := E.ex
  exact He.int_ok X G (E.ok h)
theorem Env.strc {fal : List He.Fa} {fnl : List He.DefD} {fna : List He5.DefA} {xf : PySem.W.Frag → Bool} {K : PySem.W.Frag} {mg : Str → Option Value} (E : Env fal fnl fna xf K mg) {x z : Str} (h : He.Fa.str x z ∈ fal) : ∃ t, mg x = some (.str z t) := by
  obtain ⟨hp, X, G⟩ := E.ex
  exact He.str_ok X G (E.ok h)
/-- a module's number, a module's text -/
theorem pe_globI {X : Cx} {x : Str} {i : Int} {pos : Pos} (hg : Gl X x) (h : ∃ t, X.mg x = some (.int i t)) (hd : (x == ("__debug__" : Str)) = false := by decide) : PE X (.Name x pos) (tC (.int i)) := by
  obtain ⟨t, m⟩ := h
  exact pe_glob hg m ⟨t, rfl⟩ hd
theorem pe_globS {X : Cx} {x z : Str} {pos : Pos} (hg : Gl X x) (h : ∃ t, X.mg x = some (.str z t)) (hd : (x == ("__debug__" : Str)) = false := by decide) : PE X (.Name x pos) (tC (.str z)) := by
  obtain ⟨t, m⟩ := h
  exact pe_glob hg m ⟨t, rfl⟩ hd
/-- a def that stands under the module's name x and keeps its promise -/
def Good (P : Program) (w : World) (K : PySem.W.Frag) (mg : Str → Option Value) (base : Heap) (CX : CXT) (k : Nat) (x : Str) (ps : List Str) (sp : Sp) : Prop :=
  ∃ fd, FnOk P w K mg base CX k (He.ga K x) fd ps sp ∧ Binds K fd ps [] ∧ PySem.W.keepIn K (.ref (He.ga K x)) = true ∧ mg x = some (.ref (He.ga K x))
section
variable {X : Cx} {CX : CXT} {k : Nat} {ps : List Str} {sp : Sp} {E : XK} {x : Str} {p pos : Pos} {e : Expr} {es : List Expr} {t : TA}
theorem pe_G (F : Good X.prog X.w X.K X.mg X.base CX k x ps sp) (hr : Room k X.A) (hg : Gl X x) (hx : Passes CX X E) (ha : PA X (e :: es) t)
    (hdb : (x == ("__debug__" : Str)) = false := by decide) (he : starEach (e :: es) X.env = (false, eval e X.env) :: starEach es X.env := by rfl) (hpl : (backTo pos (starEach es X.env)).any (·.1) = false := by rfl) :
    PE X (.Call (.Name x p) (e :: es) [] pos) (tCall sp [] E t) := by
  obtain ⟨fd, F, b, kp, m⟩ := F
  exact pe_call F hr hg m kp b .nil hx ha hdb he hpl
theorem pe_G0 (F : Good X.prog X.w X.K X.mg X.base CX k x ps sp) (hr : Room k X.A) (hg : Gl X x) (hx : Passes CX X E)
    (hdb : (x == ("__debug__" : Str)) = false := by decide) :
    PE X (.Call (.Name x p) [] [] pos) (tCall sp [] E tNil) := by
  obtain ⟨fd, F, b, kp, m⟩ := F
  exact pe_call0 F hr hg m kp b .nil hx hdb
end
/-- a def called by n positional values and keywords ks; gV: its values in the parameters' order -/
def GoodN (P : Program) (w : World) (K : PySem.W.Frag) (mg : Str → Option Value) (base : Heap) (CX : CXT) (k : Nat) (x : Str) (n : Nat) (ks ps : List Str) (gV : List V → List V → List V) (sp : Sp) : Prop :=
  ∃ fd, FnOk P w K mg base CX k (He.ga K x) fd ps sp ∧ (∃ g, KBn K fd ps n ks g gV) ∧ PySem.W.keepIn K (.ref (He.ga K x)) = true ∧ mg x = some (.ref (He.ga K x))
section
variable {X : Cx} {CX : CXT} {k n : Nat} {ps ks : List Str} {sp : Sp} {E : XK} {x : Str} {p pos : Pos} {e : Expr} {es : List Expr} {kws : List Keyword} {t tk : TA} {gV : List V → List V → List V}
theorem pe_GN (F : GoodN X.prog X.w X.K X.mg X.base CX k x n ks ps gV sp) (hr : Room k X.A) (hg : Gl X x) (hx : Passes CX X E)
    (ha : PA X (e :: es) t) (hkw : PK X kws tk) (hall : (backToKw pos (keywordEach kws X.env)).all (·.1.isSome) = true := by rfl) (hks : (backToKw pos (keywordEach kws X.env)).filterMap (·.1) = ks := by rfl)
    (hdb : (x == ("__debug__" : Str)) = false := by decide) (he : starEach (e :: es) X.env = (false, eval e X.env) :: starEach es X.env := by rfl)
    (hpl : ((backTo pos (starEach (e :: es) X.env)).any (·.1) || (backToKw pos (keywordEach kws X.env)).any (·.1.isNone)) = false := by rfl) :
    PE X (.Call (.Name x p) (e :: es) kws pos) (tCallN n ks.length sp gV E t tk) := by
  obtain ⟨fd, F, ⟨g, hb⟩, kp, m⟩ := F
  exact pe_callN F hr hg m kp hb hx ha hkw hall hks hdb he hpl
end
/-- a def that stands at f (a method) -/
def GoodM (P : Program) (w : World) (K : PySem.W.Frag) (mg : Str → Option Value) (base : Heap) (CX : CXT) (k : Nat) (f : Addr) (ps : List Str) (sp : Sp) : Prop :=
  ∃ fd, FnOk P w K mg base CX k f fd ps sp ∧ Binds K fd ps []
theorem GoodM.raw {P : Program} {w : World} {K : PySem.W.Frag} {mg : Str → Option Value} {base : Heap} {CX : CXT} {k : Nat} {f : Addr} {ps : List Str} {sp : Sp} (G : GoodM P w K mg base CX k f ps sp) : FnR P w K mg base CX k f sp := by
  obtain ⟨fd, F, b⟩ := G
  exact (F.raw b .nil).imp fun vs H Q E h => by rw [List.append_nil]; exact h
/-- the same, with the def itself: for calls with keywords -/
def GoodD (P : Program) (w : World) (K : PySem.W.Frag) (mg : Str → Option Value) (base : Heap) (CX : CXT) (k : Nat) (d : He.DefD) (x : Str) (ps : List Str) (sp : Sp) : Prop :=
  ∃ fd, FnOk P w K mg base CX k (He.ga K x) fd ps sp ∧ Binds K fd ps [] ∧ PySem.W.keepIn K (.ref (He.ga K x)) = true ∧ mg x = some (.ref (He.ga K x)) ∧ FunD K d.name d.qual d.params d.body d.scope (d.dvs K) (d.kws K) (He.ga K x) fd
theorem GoodD.good {P : Program} {w : World} {K : PySem.W.Frag} {mg : Str → Option Value} {base : Heap} {CX : CXT} {k : Nat} {d : He.DefD} {x : Str} {ps : List Str} {sp : Sp} (h : GoodD P w K mg base CX k d x ps sp) : Good P w K mg base CX k x ps sp := by
  obtain ⟨fd, F, b, kp, m, _⟩ := h
  exact ⟨fd, F, b, kp, m⟩
theorem _root_.L2.FunD.bindsW {K : PySem.W.Frag} {x qual : Str} {params : Arguments} {body : List Stmt} {scope : Scope} {kws : List (Str × V)} {f : Addr} {fd : FuncData} {args : Args} {binds : List (Str × Value)} (F : FunD K x qual params body scope [] kws f fd)
    (h : ∀ (kV doc pm : Value) (an : Option Addr) (cdv ct : Value), bindArgs (PySem.W.fnOf x qual params body scope .none kV doc pm an cdv ct) args = pure binds) (s : Shared) : BindsTo s fd args binds := by
  obtain ⟨oc, od, dV, kV, doc, pm, an, cdv, ct, osl, rfl, lk, hcd, hD, hK⟩ := F.ex
  rcases hD with ⟨_, rfl⟩ | ⟨e, _⟩
  · exact .of_eq (h kV doc pm an cdv ct)
  · exact absurd rfl e
section
variable {X : Cx} {CX : CXT} {k : Nat} {ps ks : List Str} {sp : Sp} {E : XK} {x : Str} {p pos : Pos} {kws : List Keyword} {tk : TA} {d : He.DefD}
/-- f(k = v, ..), all parameters by keywords in their order -/
theorem pe_GK0 (F : GoodD X.prog X.w X.K X.mg X.base CX k d x ps sp) (hr : Room k X.A) (hg : Gl X x) (hx : Passes CX X E)
    (hb : ∀ {fd}, FunD X.K d.name d.qual d.params d.body d.scope (d.dvs X.K) (d.kws X.K) (He.ga X.K x) fd → ∀ (s : Shared) (us : List Value), us.length = ps.length → BindsTo s fd ⟨[], ps.zip us⟩ (ps.zip us))
    (hkw : PK X kws tk) (hall : (backToKw pos (keywordEach kws X.env)).all (·.1.isSome) = true := by rfl) (hks : (backToKw pos (keywordEach kws X.env)).filterMap (·.1) = ps := by rfl)
    (hdb : (x == ("__debug__" : Str)) = false := by decide) (hpl : ((backTo pos (starEach [] X.env)).any (·.1) || (backToKw pos (keywordEach kws X.env)).any (·.1.isNone)) = false := by rfl) :
    PE X (.Call (.Name x p) [] kws pos) (fun σ H Q => tk σ H fun zs H1 => sp zs H1 Q E) := by
  obtain ⟨fd, F, _, kp, m, D⟩ := F
  refine ⟨fun pins s σ H Q I h => ?_⟩
  refine wpAny_Call_Name_kw (ld_glob I hg m ?_ hdb)
  refine PySem.W.callWith_KW0 (h₀ := X.base) I.ok.mod.kin kp hall (thn (hkw.run pos pins s σ H _ I h) fun ws s2 ⟨zs, H2, I2, rz, q2⟩ => ⟨I2.kIn, ?_⟩) hpl
  rw [hks, List.append_nil]
  have l2 : ws.length = ps.length := by rw [← rz.length]; exact F.len _ _ _ _ q2
  refine wpAny_call (codeAny_mono (F.run X.A X.stack s2 H2 ⟨[], ps.zip ws⟩ ws zs Q E hr I2.env0 (hb D s2 ws l2) rz q2) fun r s' hq => ?_)
  cases r with
  | error e => exact hx pins σ H2 s2 e s' I2 hq
  | ok fl =>
    cases fl with
    | ret u => exact I2.after hq
    | next => exact False.elim hq
    | brk => exact False.elim hq
    | cont => exact False.elim hq
end
section
variable {X : Cx} {CX : CXT} {k : Nat} {ps ks : List Str} {sp : Sp} {E : XK} {x : Str} {p pos : Pos} {kws : List Keyword} {tk : TA} {d : He.DefD}
/-- f(k = v, ..), all parameters by keywords, from the last to the first -/
theorem pe_GKr (F : GoodD X.prog X.w X.K X.mg X.base CX k d x ps sp) (hr : Room k X.A) (hg : Gl X x) (hx : Passes CX X E)
    (hb : ∀ {fd}, FunD X.K d.name d.qual d.params d.body d.scope (d.dvs X.K) (d.kws X.K) (He.ga X.K x) fd → ∀ (s : Shared) (us : List Value), us.length = ps.length → BindsTo s fd ⟨[], ps.reverse.zip us⟩ (ps.zip us.reverse))
    (hkw : PK X kws tk) (hall : (backToKw pos (keywordEach kws X.env)).all (·.1.isSome) = true := by rfl) (hks : (backToKw pos (keywordEach kws X.env)).filterMap (·.1) = ps.reverse := by rfl)
    (hdb : (x == ("__debug__" : Str)) = false := by decide) (hpl : ((backTo pos (starEach [] X.env)).any (·.1) || (backToKw pos (keywordEach kws X.env)).any (·.1.isNone)) = false := by rfl) :
    PE X (.Call (.Name x p) [] kws pos) (fun σ H Q => tk σ H fun zs H1 => sp zs.reverse H1 Q E) := by
  obtain ⟨fd, F, _, kp, m, D⟩ := F
  refine ⟨fun pins s σ H Q I h => ?_⟩
  refine wpAny_Call_Name_kw (ld_glob I hg m ?_ hdb)
  refine PySem.W.callWith_KW0 (h₀ := X.base) I.ok.mod.kin kp hall (thn (hkw.run pos pins s σ H _ I h) fun ws s2 ⟨zs, H2, I2, rz, q2⟩ => ⟨I2.kIn, ?_⟩) hpl
  rw [hks, List.append_nil]
  have l2 : ws.length = ps.length := by
    have := F.len _ _ _ _ q2
    rw [List.length_reverse, rz.length] at this
    exact this
  refine wpAny_call (codeAny_mono (F.run X.A X.stack s2 H2 ⟨[], ps.reverse.zip ws⟩ ws.reverse zs.reverse Q E hr I2.env0 (hb D s2 ws l2) rz.reverse q2) fun r s' hq => ?_)
  cases r with
  | error e => exact hx pins σ H2 s2 e s' I2 hq
  | ok fl =>
    cases fl with
    | ret u => exact I2.after hq
    | next => exact False.elim hq
    | brk => exact False.elim hq
    | cont => exact False.elim hq
end
/-- len(t), said with K -/
def rLenC (K : PySem.W.Frag) : List V → Hp → VK → Prop := fun xs H Q => ∃ p ys, xs = [.ref p] ∧ (SqL K H p ys ∨ SqT K H p ys) ∧ Q (.int ((ys.length : Nat) : Int)) H
/-- tuple(t), said with K -/
def rTof (K : PySem.W.Frag) : List V → Hp → VK → Prop := fun xs H Q => ∃ p ys, xs = [.ref p] ∧ ((SqL K H p ys ∧ ∀ l, H l = none → Q (.ref l) (L2.upd H l (.tup ys))) ∨ (SqT K H p ys ∧ Q (.ref p) H))
/-- the scope of a written comprehension; the value of an assignment -/
def compSc : Expr → Scope
  | .ListComp _ _ sc _ => sc
  | _ => default
def assignVal : Stmt → Expr
  | .Assign _ v _ => v
  | _ => default
/-- list(t), said with K -/
def rLof (K : PySem.W.Frag) : List V → Hp → VK → Prop := fun xs H Q => ∃ p ys, xs = [.ref p] ∧ (SqL K H p ys ∨ SqT K H p ys) ∧ ∀ l, H l = none → Q (.ref l) (L2.upd H l (.lst ys))
/-- the module's name x is a tuple, plain -/
def tupN (K : PySem.W.Frag) (x : Str) : Bool := match K.lookup (He.ga K x) with
  | some ⟨.type c, none, .seq _ _, _⟩ => decide (c = "tuple")
  | _ => false
theorem tupN_ok {K : PySem.W.Frag} {x : Str} (h : tupN K x = true) (H : Hp) : tyV K "tuple" (.ref (He.ga K x)) H := by
  unfold tupN at h
  cases q : K.lookup (He.ga K x) with
  | none =>
    rw [q] at h
    cases h
  | some o =>
    obtain ⟨oc, od, dt, osl⟩ := o
    rw [q] at h
    cases oc with
    | type c =>
      cases od with
      | none =>
        cases dt with
        | seq its n => exact .inr (.inl ⟨rfl, _, q, congrArg Value.type (of_decide_eq_true h), rfl⟩)
        | _ => cases h
      | some a => cases dt <;> cases h
    | _ => cases od <;> cases dt <;> cases h
theorem ite_f {c : Bool} {A B : Prop} (hc : c = false) (h : B) : if c = true then A else B := by
  rw [hc]
  exact iteF h
theorem ite_t {c : Bool} {A B : Prop} (hc : c = true) (h : A) : if c = true then A else B := by
  rw [hc]
  exact iteT h
theorem dne {i j : Int} (h : i ≠ j) : decide (V.int i = V.int j) = false := decide_eq_false fun z => h (V.int.inj z)
theorem deq {i j : Int} (h : i = j) : decide (V.int i = V.int j) = true := decide_eq_true (congrArg V.int h)
theorem hu64_of {A : Around} {k : Nat} (hr : Room k A) : A.units + 64 < cLine := Nat.lt_of_le_of_lt (Nat.le_refl _) hr.units
theorem closing {fal : List He.Fa} {fnl : List He.DefD} {fna : List He5.DefA} {xf : PySem.W.Frag → Bool} {P : Program} {w : World} {K : PySem.W.Frag} {h : Heap} {mg : Str → Option Value} {fa : Addr} {k : Nat} {sp : PySem.W.Frag → Sp} {pa : Arguments} {bd : List Stmt} {sc : Scope}
    (KX : K.In h) (G : h.Ns mainGlobals mg) (hmg : mg ("law" : Str) = some (.ref fa)) (c : He.SaysD fal fnl K) (ca : He5.SaysA [] fna K) (cx : xf K = true) (gl : Env fal fnl fna xf K mg → mg ("law" : Str) = some (.ref (He.ga K "law")))
    (D : ∃ fd, FunD K "law" "law" pa bd sc [] [] (He.ga K "law") fd)
    (F : ∀ (base : Heap) (fd : FuncData), Env fal fnl fna xf K mg → FunD K "law" "law" pa bd sc [] [] (He.ga K "law") fd → FnOk P w K mg base CX0 k (He.ga K "law") fd ["script"] (sp K))
    (b : ∀ {fd : FuncData}, FunD K "law" "law" pa bd sc [] [] (He.ga K "law") fd → ∀ (s : Shared) (v : Value), BindsTo s fd ⟨[v], []⟩ [("script", v)])
    (hsp : ∀ (H : Hp) (a : Addr) (ns : List Int), ns.length ≤ 63 → SqL K H a (ns.map V.int) → sp K [.ref a] H (fun v _ => v = .bl true) fun _ _ _ => False) :
    ∃ (K : PySem.W.Frag) (fd : FuncData) (sp : Sp), K.In h ∧ (∀ (s : Shared) (u : Value), BindsTo s fd ⟨[u], []⟩ [("script", u)]) ∧
        (∀ (H : Hp) (a : Addr) (ns : List Int), ns.length ≤ 63 → Only H → SqL K H a (ns.map V.int) → sp [.ref a] H (fun v _ => v = .bl true) fun _ _ _ => False) ∧
        ∀ base : Heap, K.In base → base.Ns mainGlobals mg → FnOk P w K mg base CX0 k fa fd ["script"] sp := by
  have E : Env fal fnl fna xf K mg := ⟨⟨h, KX, G⟩, c, ca, cx⟩
  obtain ⟨fd, hD⟩ := D
  have e := (gl E).symm.trans hmg
  cases e
  exact ⟨K, fd, sp K, KX, b hD, fun H a ns hl _ hS => hsp H a ns hl hS, fun base _ _ => F base fd E hD⟩
end Bx


-- imports HandS.ExcInit KE.KExcSuper KE.KExcInit PyProof.ExcBaseAll.IndexError PyProof.ExcBaseAll.LookupError
/-! own exceptions over ValueError, IndexError or LookupError: their first field, a further one -/
namespace Bx
open PySem PySem.Spec PyProof.Rows L2
/-- the built-in that an own exception stands over -/
inductive EB | ve | ie | le
def EB.nm : EB → String
  | .ve => "ValueError"
  | .ie => "IndexError"
  | .le => "LookupError"
def EB.new : EB → String
  | .ve => "ValueError.__new__"
  | .ie => "IndexError.__new__"
  | .le => "LookupError.__new__"
def EB.ini : EB → String
  | .ve => "ValueError.__init__"
  | .ie => "IndexError.__init__"
  | .le => "LookupError.__init__"
def EB.mro : EB → List Value
  | .ve => [.type "ValueError", .type "Exception", .type "BaseException", .type "object"]
  | .ie => [.type "IndexError", .type "LookupError", .type "Exception", .type "BaseException", .type "object"]
  | .le => [.type "LookupError", .type "Exception", .type "BaseException", .type "object"]
theorem EB.ex (b : EB) : ExcBaseFacts b.nm b.new b.ini b.mro := match b with
  | .ve => F.excBase_ValueError
  | .ie => F.excBase_IndexError
  | .le => F.excBase_LookupError
theorem EB.st (b : EB) : StoreFacts b.nm b.mro "object.__setattr__" "object" := match b with
  | .ve => F.store_ValueError
  | .ie => F.store_IndexError
  | .le => F.store_LookupError
theorem EB.kx (b : EB) : PySem.W.KxsFacts b.nm b.ini := match b with
  | .ve => PySem.W.kxs_ValueError
  | .ie => PySem.W.kxs_IndexError
  | .le => PySem.W.kxs_LookupError
structure OexG (b : EB) (K : PySem.W.Frag) (C : Addr) : Prop where
  cls : ∃ nm q N bs bm sn sub ab col dd k0 k1 k2 k3 k5, K.lookup C = some (excClassObj nm q C N bs bm true sn sub ab col dd k0 k1 k2 k3 k5 b.new) ∧ PySem.W.excTail b.mro bm = true
  sa : PySem.W.findIn K (.ref C) "__setattr__" = some (some (.builtin "object.__setattr__"))
  exC : PySem.W.subIn K (.ref C) (.type "BaseException") = some true
  tyC : PySem.W.typeIn K (.ref C) = some (.type "type")
  kC : PySem.W.keepIn K (.ref C) = true
section
open Builtin Builtin.ObjectAttr
variable {prog : Program} {w : World} {A : Around} {E : Value → Shared → Prop} {R : Result → Shared → Prop} {hp : Heap} {g : Array GenState} {d : Drawn} {t : Nat} {os : OsState} {K : PySem.W.Frag} {C : Addr} {b : EB} {name : Str} {tk : Tok} {v : Value} {x : Addr} {fv : Array Value}
theorem OexG.over (T : OexG b K C) : PySem.W.excOver K C b.mro = true := by
  obtain ⟨nm, q, N, bs, bm, sn, sub, ab, col, dd, k0, k1, k2, k3, k5, hC, hbm⟩ := T.cls
  unfold PySem.W.excOver PySem.W.clsIn
  rw [hC]
  show (C == C && PySem.W.excTail b.mro bm) = true
  rw [hbm, beq_self_eq_true]
  rfl
/-- the first field: the object's dict is laid -/
theorem setG_new (T : OexG b K C) (X : K.In hp) (hx : hp.get? x = some { cls := .ref C, data := .fields fv }) (ha : PySem.W.findIn K (.ref C) name = some none)
    (hq : ∀ h' tk' dx, (∀ c o, c ≠ x → hp.get? c = some o → h'.get? c = some o) → hp.objs.size ≤ dx → dx ≠ x → h'.get? x = some { cls := .ref C, dict := some dx, data := .fields fv } → h'.Ns1 dx (fun y => if y = name then some v else none) → R (.ok (.ret .none)) ⟨h', g, d, tk', os⟩) :
    codeAny (model prog w) A (.call (.builtin "object.__setattr__") ⟨[.ref x, .str name tk, v], []⟩) R ⟨hp, g, d, t, os⟩ := by
  obtain ⟨nm, q, N, bs, bm, sn, sub, ab, col, dd, k0, k1, k2, k3, k5, hC, hbm⟩ := T.cls
  have nx : x ≠ hp.objs.size := Nat.ne_of_lt (Heap.lt_size hx)
  have cl : PySem.W.Looks (model prog w) hp (classData C) _ := PySem.W.looks_clsIn X (by unfold PySem.W.clsIn; rw [hC] <;> rfl)
  refine PySem.W.osa_openX (r := none) b.st X (ox := { cls := .ref C, data := .fields fv }) (od := none) ⟨hx, rfl, rfl, trivial⟩ T.over (by unfold PySem.W.takerIn; rw [ha]; rfl) fun bb => ?_
  show wpAny _ _ (storeInOwnDict (.ref x) (.ref C) (.str name tk) name v bb) _ _ _
  unfold storeInOwnDict ownDictForStores
  repeat (first | with_reducible refine PySem.HandSPX.store_in_new ?_ ?_ | with_reducible refine wpAny_loadPart_at hx ?_ | with_reducible refine cl.at ?_ | wp_step)
  · refine ⟨_, #[], _, (Heap.get?_update_ne _ _ _ _ nx.symm).trans (Heap.get?_push_at rfl rfl), rfl, fun e he => ?_, fun _ => rfl⟩
    simp at he
  · intro h' tk' hn' sb
    have hx1 : (hp.push { cls := .type "dict", data := .dict #[] }).get? x = some { cls := .ref C, data := .fields fv } := Heap.get?_push_of_some _ hx
    refine hq h' tk' hp.objs.size (fun c o hc ho => ?_) (Nat.le_refl _) nx.symm ((sb.2 x nx).trans (Heap.get?_update_self _ hx1 rfl)) hn'
    rw [sb.2 c (Nat.ne_of_lt (Heap.lt_size ho)), Heap.get?_update_ne _ _ _ _ hc]
    exact Heap.get?_push_of_some _ ho
/-- a further field -/
theorem setG_old {dx : Addr} {m0 : Str → Option Value} {nl : List Str} (T : OexG b K C) (X : K.In hp) (hx : hp.get? x = some { cls := .ref C, dict := some dx, data := .fields fv }) (hns : hp.Ns1 dx m0) (hw : Within m0 nl) (hz : nl.length ≤ 1000) (ha : PySem.W.findIn K (.ref C) name = some none)
    (hq : ∀ h' tk', (∀ c o, c ≠ dx → hp.get? c = some o → h'.get? c = some o) → h'.Ns1 dx (fun y => if y = name then some v else m0 y) → R (.ok (.ret .none)) ⟨h', g, d, tk', os⟩) :
    codeAny (model prog w) A (.call (.builtin "object.__setattr__") ⟨[.ref x, .str name tk, v], []⟩) R ⟨hp, g, d, t, os⟩ := by
  obtain ⟨nm, q, N, bs, bm, sn, sub, ab, col, dd, k0, k1, k2, k3, k5, hC, hbm⟩ := T.cls
  obtain ⟨oD, _, _, hoD, _, _⟩ := hns.count hw
  have cl : PySem.W.Looks (model prog w) hp (classData C) _ := PySem.W.looks_clsIn X (by unfold PySem.W.clsIn; rw [hC] <;> rfl)
  refine PySem.W.osa_openX (r := none) b.st X (ox := { cls := .ref C, dict := some dx, data := .fields fv }) (od := some oD) ⟨hx, rfl, rfl, hoD⟩ T.over (by unfold PySem.W.takerIn; rw [ha]; rfl) fun bb => ?_
  show wpAny _ _ (storeInOwnDict (.ref x) (.ref C) (.str name tk) name v bb) _ _ _
  unfold storeInOwnDict ownDictForStores
  repeat (first | with_reducible refine PySem.OEX.store_in_old hns hw hz ?_ | with_reducible refine wpAny_loadPart_at hx ?_ | with_reducible refine cl.at ?_ | wp_step)
  intro h' tk' hn' sb
  exact hq h' tk' (fun c o hc ho => (sb.2 c hc).trans ho) hn'
end
section
variable {X : Cx} {pins : List (Addr × Obj)} {σ : L2.St} {H : Hp} {s : Shared} {a C dx : Addr} {f : Str} {y : V} {u : Value} {fs : List (Str × V)} {Q : Unit → Shared → Prop} {E : Value → Shared → Prop} {A : Around} {b : EB}
theorem ostG_new (T : OexG b X.K C) (I : L2.Inv X pins σ H s) (e : H a = some (exo a C none)) (hno : PySem.W.findIn X.K (.ref C) f = some none) (ry : RelV y u)
    (h : ∀ dx s', H dx = none → dx ≠ a → L2.Inv X pins σ (upd (upd H dx (exd dx [(f, y)])) a (exo a C (some dx))) s' → Q () s') : wpAny (model X.prog X.w) A (setAttr (.ref a) f u) Q E s := by
  obtain ⟨t1, ho⟩ := exo_at I.hok e
  obtain ⟨hp, g, d, t, os⟩ := s
  refine PySem.W.set_plain I.kIn (ox := { cls := .ref C, dict := none, data := .fields #[.ref t1, .none, .none, .none, .bool false, .none] }) (od := none) ⟨ho, rfl, rfl, trivial⟩ T.sa ?_
  refine setG_new T I.kIn ho hno fun h' tk' dx k dn dne hx hn => ?_
  have hnd : H dx = none := I.hok.fresh dn
  have nd : ∀ {c : Addr} {o : Obj}, hp.get? c = some o → c ≠ dx := fun {c o} q => Nat.ne_of_lt (Nat.lt_of_lt_of_le (Heap.lt_size q) dn)
  have na : ∀ {c : Addr}, H c = none → c ≠ a := fun {c} n => (ne_of_none e n).symm
  refine h dx _ hnd dne (I.un (t' := tk') ⟨fun c o q n _ _ => k c o (na n) q, fun c o q n _ _ => ⟨o.slots, k c o (na n) q⟩, fun c o q n _ => by rw [upd_ne (na n), upd_ne (nd q)]; exact n, fun c o q _ => ?_,
    fun c xs q => by rw [upd_ne (at_ne e q exo_tup), upd_ne (ne_of_none q hnd)]; exact q, fun c o v q => by rw [upd_ne (at_ne e q exo_frz), upd_ne (ne_of_none q hnd)]; exact q,
    fun c ps q => ⟨#[], by rw [upd_ne (at_ne e q exo_tbl), upd_ne (ne_of_none q hnd), q]; simp⟩⟩ fun c o q => ?_)
  · by_cases hc : c = a
    · exact ⟨_, by rw [hc]; exact hx⟩
    · exact ⟨o, k c o hc q⟩
  · by_cases hc : c = a
    · subst hc
      rw [upd_same] at q
      cases q
      exact exo_ok hx
    rw [upd_ne hc] at q
    by_cases hd : c = dx
    · subst hd
      rw [upd_same] at q
      cases q
      exact exd_ok hn (relO_put (fs := []) ry fun g => True.intro)
    rw [upd_ne hd] at q
    refine (I.hok c o q).stay (fun c2 v hc2 z => k c2 v ?_ z) (fun c2 hc2 => ?_) fun c2 xs hc2 => ?_
    · rcases hc2 with r | r
      · rw [r]; exact hc
      · exact at_ne e r exo_own
    · rw [upd_ne (at_ne e hc2 exo_own), upd_ne (ne_of_none hc2 hnd)]; exact hc2
    · rw [upd_ne (at_ne e hc2 exo_tup), upd_ne (ne_of_none hc2 hnd)]; exact hc2
theorem ostG_old (T : OexG b X.K C) (I : L2.Inv X pins σ H s) (e : H a = some (exo a C (some dx))) (ed : H dx = some (exd dx fs)) (hl : fs.length ≤ 900) (hno : PySem.W.findIn X.K (.ref C) f = some none) (ry : RelV y u)
    (h : ∀ s', L2.Inv X pins σ (upd H dx (exd dx ((f, y) :: fs))) s' → Q () s') : wpAny (model X.prog X.w) A (setAttr (.ref a) f u) Q E s := by
  obtain ⟨t1, ho⟩ := exo_at I.hok e
  obtain ⟨mA, hns, rel⟩ := exd_at I.hok ed
  have hw := within_of rel
  obtain ⟨hp, g, d, t, os⟩ := s
  obtain ⟨oD, _, _, hoD, _, _⟩ := hns.count hw
  refine PySem.W.set_plain I.kIn (ox := { cls := .ref C, dict := some dx, data := .fields #[.ref t1, .none, .none, .none, .bool false, .none] }) (od := some oD) ⟨ho, rfl, rfl, hoD⟩ T.sa ?_
  refine setG_old T I.kIn ho hns hw (by rw [List.length_map]; omega) hno fun h' tk' k hn => ?_
  obtain ⟨o, _, _, e', _⟩ := id hn
  exact h _ (I.write (t' := tk') (x := dx) (e := dx) (o := exd dx ((f, y) :: fs)) (by rw [ed]; exact True.intro) (.inl rfl) k ⟨o, e'⟩ (exd_ok hn (relO_put ry rel)))
/-- self.f = e -/
def tOstG (b : EB) (K : PySem.W.Frag) (f : Str) (to te : TE) : TS := fun D σ H => te σ H fun y H1 => to σ H1 fun x H2 => ∃ a C : Addr, x = .ref a ∧ OexG b K C ∧ PySem.W.findIn K (.ref C) f = some none ∧
  ((H2 a = some (exo a C none) ∧ ∀ dx, H2 dx = none → dx ≠ a → D.nx σ (upd (upd H2 dx (exd dx [(f, y)])) a (exo a C (some dx)))) ∨
    ∃ (dx : Addr) (fs : List (Str × V)), H2 a = some (exo a C (some dx)) ∧ H2 dx = some (exd dx fs) ∧ fs.length ≤ 900 ∧ D.nx σ (upd H2 dx (exd dx ((f, y) :: fs))))
theorem ps_ostG {o e : Expr} {to te : TE} {p' pos : Pos} (ho : PE X o to) (he : PE X e te) (hs : swapsWith e (some (.Attribute o f p')) pos.line X.env = pure false := by rfl) : PS X (.Assign [.Attribute o f p'] e pos) (tOstG b X.K f to te) := by
  refine ⟨fun pins s σ H D I h => ?_⟩
  refine plainObj_wpAny_Assign_Attribute (thn (he.run pins s σ H _ I h) fun v s1 ⟨y, H1, I1, r1, q1⟩ => thn (ho.run pins s1 σ H1 _ I1 q1) fun u s2 ⟨x, H2, I2, r2, a, C, ex, T, hno, q⟩ => ?_) hs
  subst ex
  obtain rfl : u = Value.ref a := r2
  rcases q with ⟨ea, q⟩ | ⟨dx, fs, ea, ed, hl, q⟩
  · exact ostG_new T I2 ea hno r1 fun dx s' n ne J => ⟨σ, _, J, q dx n ne⟩
  · exact ostG_old T I2 ea ed hl hno r1 fun s' J => ⟨σ, _, J, q⟩
end
end Bx
-- needs excB
-- imports HandS.ExcInit KE.KExcSuper KE.KSuper
/-! an own exception's __init__ that says super().__init__(text) -/
namespace Bx
open PySem PySem.Spec PyProof.Rows L2
/-- what the program's main text must be: its file, no own super -/
structure MainP (P : Program) (file : Str) : Prop where
  file : ((P.main.file : Str) == file) = true
  sup : (P.main.scope.names.lookup ("super" : Str)).isSome = false
structure ScopeS (N ps : List Str) (sc : Scope) : Prop where
  kind : sc.kind = .function
  co : sc.isCoroutine = false
  gen : sc.isGenerator = false
  nd : N.Nodup
  pre : N.take ps.length = ps
  par : ∀ x ∈ ps, sc.names.lookup x = some .local
  nocell : ∀ y ∈ sc.names, y.2 ≠ .cell
  free : ∀ y ∈ sc.names, y.2 = .free → y.1 = "__class__"
  cls : sc.names.lookup ("__class__" : Str) = some .free
  sup : sc.names.lookup ("super" : Str) = some .globalImplicit
abbrev envS (qual : Str) (scope : Scope) (L f : Addr) (cd : Value) (cc : Addr) : PySem.Env := PySem.W.ksEnv qual scope L f cd cc
def cxS (CX : CXT) (P : Program) (w : World) (K : PySem.W.Frag) (mg : Str → Option Value) (base : Heap) (N : List Str) (qual : Str) (scope : Scope) (f : Addr) (cd : Value) (cc : Addr) (A : Around) (outer : List PySem.Env) (s : Shared) (H : Hp) (E : XK) : Cx where
  prog := P
  w := w
  K := K
  mg := mg
  base := base
  A := A.deeper (envS qual scope s.heap.objs.size f cd cc)
  N := N
  s_0 := s
  H_0 := H
  env := envS qual scope s.heap.objs.size f cd cc
  outer := outer
  stack := envS qual scope s.heap.objs.size f cd cc :: outer
  ex := []
  calm := true
  fn := fun _ => false
  pn := []
  xe := fun e s' => wpAny (model P w) (A.deeper (envS qual scope s.heap.objs.size f cd cc)) (leaving (envS qual scope s.heap.objs.size f cd cc) e) (fun _ s'' => CX outer H s E e s'') (fun e' s'' => CX outer H s E e' s'') s'
theorem zip_rev {ps : List Str} {us : List Value} (nd : ps.Nodup) {i : Nat} {x : Str} {u : Value} (hx : ps[i]? = some x) (hu : us[i]? = some u) : (ps.zip us).reverse.lookup x = some u := by
  have key : ∀ {l : List (Str × Value)}, (l.map (·.1)).Nodup → (x, u) ∈ l → l.lookup x = some u := by
    intro l
    induction l with
    | nil => intro _ h; cases h
    | cons p l ih =>
      intro nd h
      obtain ⟨y, v⟩ := p
      have nd' := List.nodup_cons.mp (show (y :: l.map (·.1)).Nodup from nd)
      rcases List.mem_cons.mp h with e | h
      · cases e
        simp [List.lookup]
      · have ne : x ≠ y := fun z => nd'.1 (by rw [← z]; exact List.mem_map.mpr ⟨(x, u), h, rfl⟩)
        have eb : (x == y) = false := by simpa using ne
        simp only [List.lookup, eb]
        exact ih nd'.2 h
  refine key ?_ ?_
  · rw [List.map_reverse, (List.reverse_perm _).nodup_iff]
    exact nd.sublist (by
      clear hx hu nd
      induction ps generalizing us with
      | nil => exact List.nil_sublist _
      | cons p ps ih =>
        cases us with
        | nil => exact List.nil_sublist _
        | cons u us =>
          rw [List.zip_cons_cons, List.map_cons]
          exact (ih (us := us)).cons_cons p)
  · rw [List.mem_reverse]
    refine List.mem_iff_getElem?.mpr ⟨i, ?_⟩
    rw [List.getElem?_zip_eq_some]
    exact ⟨hx, hu⟩
theorem inv_startS {CX : CXT} {P : Program} {w : World} {K : PySem.W.Frag} {mg : Str → Option Value} {base : Heap} {N ps : List Str} {qual : Str} {scope : Scope} {f cc : Addr} {cd : Value} {A : Around} {outer : List PySem.Env} {s : Shared} {H : Hp} {E : XK} {us : List Value} {vs : List V} {h₁ : Heap} {tk : Nat}
    (S : ScopeS N ps scope) (hd : A.handled = none) (e0 : Env0 P w K mg base A outer s H) (hl : vs.length = ps.length) (r : Vals vs us) (hcell : ∃ o, base.get? cc = some o ∧ ∃ v, o.data = .cell v)
    (hns : h₁.Ns s.heap.objs.size fun x => (ps.zip us).reverse.lookup x) (kp : ∀ b o, s.heap.get? b = some o → h₁.get? b = some o) :
    Inv (cxS CX P w K mg base N qual scope f cd cc A outer s H E) [] (L2.start N vs) H { s with heap := h₁, toks := tk } := by
  have hpl : ps.length ≤ N.length := by have := congrArg List.length S.pre; rw [List.length_take] at this; omega
  have noA : ∀ b : Addr, b ∉ (cxS CX P w K mg base N qual scope f cd cc A outer s H E).ex := fun b z => absurd (show b ∈ ([] : List Addr) from z) (by simp)
  have cl : ∀ {y c}, [(("__class__" : Str), cc)].lookup y = some c → y = "__class__" ∧ c = cc := fun {y c} e => by
    by_cases q : y = "__class__"
    · rw [q] at e
      simp [List.lookup] at e
      exact ⟨q, e.symm⟩
    · have eb : (y == ("__class__" : Str)) = false := by simpa using q
      simp [List.lookup, eb] at e
  obtain ⟨oc, hoc, v, hv⟩ := hcell
  refine ⟨⟨e0.mod, S.kind, rfl, rfl, Nat.le_refl _, fun y z c h1 h2 => ?_, fun y hy => ?_, fun y c z _ => (by cases z), fun _ => hd, Around.frames_deeper e0.frames, .inr ⟨rfl, rfl⟩, fun b z => absurd z (noA b), e0.bs, e0.bsz, fun b _ _ => noA b, fun b z => absurd z (noA b), e0.funs, e0.frf⟩,
    rfl, e0.bare, Un.kept kp, ⟨_, hns, fun i y v h1 h2 h3 => ?_⟩, fun y c h => ?_, e0.hok.fresh (Nat.le_refl _), fun y c h => ?_, fun p hp => absurd (show p ∈ ([] : List (Addr × Obj)) from hp) (by simp), e0.hok.kept kp, ?_⟩
  · exact (cl h1).1.trans (cl h2).1.symm
  · have hy : scope.names.lookup y = some .cell ∨ scope.names.lookup y = some .free := hy
    rcases hy with hy | hy
    · exact absurd rfl (S.nocell _ (PySem.mem_of_lookup hy))
    · have e := S.free _ (PySem.mem_of_lookup hy) rfl
      refine ⟨cc, ?_⟩
      show [(("__class__" : Str), cc)].lookup y = some cc
      rw [show y = "__class__" from e]
      simp [List.lookup]
  · have hi : i < vs.length := by
      unfold L2.start at h2
      by_cases hi : i < vs.length
      · exact hi
      · rw [List.getElem?_append_right (by simpa using hi), List.getElem?_replicate] at h2
        split at h2 <;> cases h2
    have ha : vs[i]? = some v := by
      unfold L2.start at h2
      rw [List.getElem?_append_left (by simpa using hi), List.getElem?_map] at h2
      cases e : vs[i]? with
      | none => rw [e] at h2; cases h2
      | some a => rw [e] at h2; cases h2; rfl
    obtain ⟨u, hu, rv⟩ := r.get ha
    have hp : ps[i]? = some y := by
      rw [← S.pre, List.getElem?_take_of_lt (by omega)]; exact h1
    have ndP : ps.Nodup := by rw [← S.pre]; exact S.nd.sublist (List.take_sublist _ _)
    exact ⟨u, rv, .inl ⟨S.par y (List.mem_of_getElem? hp), zip_rev ndP hp hu⟩⟩
  · obtain ⟨_, e⟩ := cl h
    rw [e]
    exact ⟨v, oc, kp _ _ (e0.bs _ _ hoc).1, hv⟩
  · obtain ⟨_, e⟩ := cl h
    rw [e]
    exact (e0.bs _ _ hoc).2
  · unfold L2.start
    rw [List.length_append, List.length_map, List.length_replicate, hl]
    show ps.length + (N.length - _) = N.length
    omega
/-- what the written part says of C's own __init__ at f, its cell at cc, its code at cd -/
structure SupF (eb : EB) (P : Program) (K : PySem.W.Frag) (C f cc cd : Addr) (fd : FuncData) : Prop where
  oex : OexG eb K C
  fn : ∃ oc od osl, K.lookup f = some ⟨oc, od, .func fd, osl⟩
  self : ∃ ar, (fd.params.posonlyargs ++ fd.params.args).head? = some ar ∧ ar.arg = "self"
  code : ∃ (cl : Value) (cdd : Option Addr) (vs : Array Value) (ccs : Array (Option Value)) (file : Str) (tf : PySem.Tok), K.lookup cd = some ⟨cl, cdd, .fields vs, ccs⟩ ∧ vs[2]? = some (.str file tf) ∧ MainP P file
  cell : ∃ (cl : Value) (cld : Option Addr) (csl : Array (Option Value)), K.lookup cc = some ⟨cl, cld, .cell (some (.ref C)), csl⟩
  sub : PySem.W.mroIn K C (.ref C) = some true
  sup : PySem.W.ks_superIn K C C "__init__" = some (some (.builtin eb.ini))
  subB : PySem.W.subIn K (.ref C) (.type eb.nm) = some true
  stat : PySem.W.nsIn K cStatics "thirdparty.any" = some none
section
variable {eb : EB} {prog : Program} {w : World} {M : Model} {A : Around} {E : Value → Shared → Prop} {h : Heap} {g : Array GenState} {d : Drawn} {t : Nat} {os : OsState}
variable {nm q : Str} {C N : Addr} {bs bm : List Value} {hdct : Bool} {sn : List Str} {sub : List Value} {ab : Bool} {col : Option Bool} {dd : Option Addr} {k0 k1 k2 k3 k5 : Option Value}
/-- the bound __init__ of ValueError, called -/
theorem call_veinit {u e t0 : Addr} {rest : List Value} {Q : Value → Shared → Prop}
    (hC : h.get? C = some (excClassObj nm q C N bs bm hdct sn sub ab col dd k0 k1 k2 k3 k5 eb.new)) (he : h.get? e = some (HandSPX.excO C t0)) (hu : h.get? u = some (PySem.W.kxs_mw eb.ini e)) (hrest : rest.length ≤ sizeLine)
    (hq : ∀ h' t1, (∀ b o, b ≠ e → h.get? b = some o → h'.get? b = some o) → h'.get? e = some (HandSPX.excO C t1) → Q .none ⟨h', g, d, t, os⟩) :
    wpAny (model prog w) A (call (.ref u) rest) Q E ⟨h, g, d, t, os⟩ := by
  refine wpAny_call (codeAny_of_tree ?_)
  show wpAny _ A.in1 (callAny (.ref u) ⟨rest, []⟩) _ _ _
  unfold callAny
  refine wpAny_bind (wpAny_load hu ?_)
  have k1 : (Value.type "method-wrapper" == Value.type "method" || Value.type "method-wrapper" == Value.type "builtin_function_or_method" || Value.type "method-wrapper" == Value.type "method-wrapper") = true := by decide
  simp only [PySem.W.kxs_mw, k1, if_true]
  refine PySem.W.KFB.if_so (by decide) ?_
  refine wpAny_bind (PySem.W.check_bound_init eb.ex.toExcCallFacts hC he rfl ?_)
  refine wpAny_bind (wpAny_pure (wpAny_pure ?_))
  refine ⟨plainId_quiet eb.ex.init.plain _, codeAny_builtin eb.ex.initEntry ?_⟩
  exact PySem.W.exc_init_tree (cls := .ref C) (t0 := t0) (dv := none) (c2 := .none) (c3 := .none) (b4 := .bool false) he hrest fun h' k e' _ => hq h' _ k e'
end
section
variable {eb : EB} {CX : CXT} {P : Program} {w : World} {K : PySem.W.Frag} {mg : Str → Option Value} {base : Heap} {N : List Str} {name qual : Str} {params : Arguments} {body : List Stmt} {scope : Scope} {dV kV doc pm ct : Value} {an : Option Addr} {f cc cd C a : Addr} {A : Around} {outer : List PySem.Env} {s0 s : Shared} {H0 H : Hp} {E : XK} {σ : L2.St} {ps : List Str}
/-- super().__init__(e) -/
theorem super_ok {e : Expr} {ta : TA} {p0 p1 p2 p3 p4 : Pos} {q : Hp → Prop} {pl : Sem Bool} (T : SupF eb P K C f cc cd (PySem.W.ksFn name qual params body scope dV kV doc pm an (.ref cd) ct cc)) (S : ScopeS N ps scope) (hmg : mg ("super" : Str) = none)
    (hN : N[0]? = some ("self" : Str)) (hself : scope.names.lookup ("self" : Str) = some .local) (hσ : σ[0]? = some (some (.ref a)))
    (I : Inv (cxS CX P w K mg base N qual scope f (.ref cd) cc A outer s0 H0 E) [] σ H s) (ha : PA (cxS CX P w K mg base N qual scope f (.ref cd) cc A outer s0 H0 E) [e] ta) (hea : H a = some (exo a C none))
    (h : ta σ H fun vs H1 => vs.length ≤ 1000 ∧ H1 a = some (exo a C none) ∧ q H1)
    (hev : eval (.Call (.Attribute (.Call (.Name "super" p0) [] [] p1) "__init__" p2) [e] [] p3) (envS qual scope s0.heap.objs.size f (.ref cd) cc) = (do
      let ov ← attributeBase (.Call (.Name "super" p0) [] [] p1) "__init__" (envS qual scope s0.heap.objs.size f (.ref cd) cc) (eval (.Call (.Name "super" p0) [] [] p1) (envS qual scope s0.heap.objs.size f (.ref cd) cc))
      standAt p2.atName
      let (fn, first) ← holding [ov] (getMethod ov "__init__" pl)
      callWith p3 fn first (backTo p3 (starEach [e] (envS qual scope s0.heap.objs.size f (.ref cd) cc))) []) := by rfl)
    (hi : interactive (envS qual scope s0.heap.objs.size f (.ref cd) cc) = false := by rfl) (hsw : swapsWith (.Call (.Attribute (.Call (.Name "super" p0) [] [] p1) "__init__" p2) [e] [] p3) none p4.line (envS qual scope s0.heap.objs.size f (.ref cd) cc) = pure false := by rfl)
    (he : starEach [e] (envS qual scope s0.heap.objs.size f (.ref cd) cc) = (false, eval e (envS qual scope s0.heap.objs.size f (.ref cd) cc)) :: starEach [] (envS qual scope s0.heap.objs.size f (.ref cd) cc) := by rfl) :
    _root_.PySem.wpAt (model P w) (A.deeper (envS qual scope s0.heap.objs.size f (.ref cd) cc)) (.func body (envS qual scope s0.heap.objs.size f (.ref cd) cc)) (exec (.Expr (.Call (.Attribute (.Call (.Name "super" p0) [] [] p1) "__init__" p2) [e] [] p3) p4) (envS qual scope s0.heap.objs.size f (.ref cd) cc))
      (fun fl s' => fl = .next ∧ ∃ H', Inv (cxS CX P w K mg base N qual scope f (.ref cd) cc A outer s0 H0 E) [] σ H' s' ∧ q H') (cxS CX P w K mg base N qual scope f (.ref cd) cc A outer s0 H0 E).xe s := by
  obtain ⟨oc, od, osl, lkf⟩ := T.fn
  obtain ⟨ar, har, ear⟩ := T.self
  obtain ⟨ccl, cdd, vsC, ccs, file, tf, lkc, hvs, MP⟩ := T.code
  obtain ⟨kcl, kcd, ksl, lkcell⟩ := T.cell
  obtain ⟨nm, q', N', bs, bm, sn, sub, ab, col, dd, k0, k1, k2, k3, k5, hC, hbm⟩ := T.oex.cls
  obtain ⟨mb, hblt, hboot⟩ := I.mod.blt
  obtain ⟨t1, hoa⟩ := exo_at I.hok hea
  obtain ⟨m, hns, hlk⟩ := I.loc
  have hD := I.kIn _ _ hC
  have hcl : PySem.W.clsIn K C = some { name := nm, bases := bs, mro := .ref C :: bm, ns := N', qualname := q', hasDict := true, slotNames := sn, subclasses := sub, abstract := ab, collection := col, hasDel := false } := by unfold PySem.W.clsIn; rw [hC] <;> rfl
  refine PySem.ks_wpAt_Expr_any ?_ hi hsw
  refine PySem.ks_wpAt_MethodCall (pl := pl) ?_ hev
  refine PySem.ks_wpAt_super_base S.sup S.cls (by decide) rfl (I.kIn _ _ lkf) rfl har rfl (I.kIn _ _ lkc) rfl hvs MP.file MP.sup ?_
  refine PySem.W.ks_loadName_global S.kind S.sup (Calls.loadGlobal_builtin (by exact I.mod.glob.keeps I.bk) hmg (by exact hblt.keeps I.bk) ((hboot _ (by decide)).trans (show bootBuiltins "super" = some (.type "super") by first | rfl | kernel_rfl)) ⟨rfl, ?_⟩)
  refine wpAny_loadName_free S.kind S.cls (by rfl) ⟨_, I.kIn _ _ lkcell, rfl⟩ ?_
  rw [ear]
  obtain ⟨ua, ra, hm⟩ := hlk 0 "self" (.ref a) hN hσ (.inl hself)
  cases ra
  have hma : m "self" = some (.ref a) := by
    rcases hm with ⟨_, z⟩ | ⟨z, _⟩
    · exact z
    · have z' : scope.names.lookup ("self" : Str) = some .cell ∨ scope.names.lookup ("self" : Str) = some .free := z
      rw [hself] at z'
      rcases z' with z' | z' <;> cases z'
  refine wpAny_loadName_local S.kind hself hns hma ?_
  obtain ⟨hp, g, dr, tk, os⟩ := s
  refine PySem.ks_wpAny_isType_cls hD rfl ⟨rfl, ?_⟩
  refine PySem.ks_wpAny_call_super (x := a) (C := C) (D := C) hD rfl hoa rfl (fun c e => by cases e) (PySem.W.looks_mroIn I.kIn T.sub) fun h' eso k => ?_
  have I1 : Inv (cxS CX P w K mg base N qual scope f (.ref cd) cc A outer s0 H0 E) [] σ H ⟨h', g, dr, tk, os⟩ := I.kept (t' := tk) k
  have hD1 := k _ _ hD
  have hoa1 := k _ _ hoa
  have ne : a ≠ C := fun z => by
    rw [z] at hoa1
    have hD1' : h'.get? C = _ := hD1
    rw [hoa1] at hD1'
    have := congrArg Obj.data (Option.some.inj hD1')
    cases this
  have hal : PySem.W.alongIn K "__init__" (((Value.ref C :: bm).dropWhile (· != .ref C)).drop 1) = some (some (.builtin eb.ini)) := by
    have := T.sup
    unfold PySem.W.ks_superIn at this
    rw [hcl] at this
    exact this
  have IA : PySem.W.InstAt h' a { cls := .ref C, dict := none, data := .fields #[.ref t1, .none, .none, .none, .bool false, .none] } C none := ⟨hoa1, rfl, rfl, trivial⟩
  refine PySem.W.kxs_getMethod eb.kx eso (PySem.W.looks_opaque I1.kIn T.stat) (l₀ := .ref C :: bm) (fun A Q E s k q => wpAny_bind ((PySem.W.looks_clsIn I1.kIn hcl) A _ E s k (wpAny_pure q))) rfl I1.kIn hal (IA.type.andThen (PySem.W.looks_subIn I1.kIn T.subB)) ne (by decide) ?_
  have I2 : Inv (cxS CX P w K mg base N qual scope f (.ref cd) cc A outer s0 H0 E) [] σ H ⟨h'.push (PySem.W.kxs_mw eb.ini a), g, dr, tk + 1, os⟩ := I1.kept (t' := tk + 1) fun b o e => Heap.get?_push_of_some _ e
  have I3 := I2.pins_of (pins' := [(h'.objs.size, PySem.W.kxs_mw eb.ini a)]) fun p hp => by
    rw [List.mem_singleton.mp hp]
    exact ⟨Heap.get?_push_size _ rfl, I1.hok.fresh (Nat.le_refl _), Nat.ne_of_gt I1.lt, I1.nofs (Nat.le_refl _), fun v z => by cases z⟩
  have hr : wpAny (model P w) (A.deeper (envS qual scope s0.heap.objs.size f (.ref cd) cc)) (spliced (backTo p3 (starEach [e] (envS qual scope s0.heap.objs.size f (.ref cd) cc)))) _ _ ⟨h'.push (PySem.W.kxs_mw eb.ini a), g, dr, tk + 1, os⟩ := ha.run p3 _ _ σ H _ I3 h
  show wpAny _ _ (callWith p3 (.ref h'.objs.size) [] (backTo p3 (starEach [e] (envS qual scope s0.heap.objs.size f (.ref cd) cc))) []) _ _ _
  rw [he] at hr ⊢
  refine PySem.W.kxs_callWith (i := eb.ini) (x := a) (by rfl) (Calls.evalArgs_plain ?_)
  refine wpAny_mono hr (fun us s1 hh => ?_) fun _ _ z => z
  obtain ⟨vs, H1, I4, r1, hlen, hea1, hq⟩ := hh
  refine ⟨(I4.pin _ (List.mem_append_right _ (List.mem_singleton.mpr rfl))).1, ?_⟩
  have hu := (I4.pin _ (List.mem_append_right _ (List.mem_singleton.mpr rfl))).1
  obtain ⟨t2, ho2⟩ := exo_at I4.hok hea1
  obtain ⟨hp2, g2, dr2, tk2, os2⟩ := s1
  show wpAny _ _ (call (.ref h'.objs.size) us) _ _ _
  refine call_veinit (I4.kIn _ _ hC) ho2 hu ?_ fun h5 t5 k5 e5 => ?_
  · rw [← Paired.length r1, sizeLine_eq]
    omega
  · have J := I4.write (t' := tk2) (x := a) (e := a) (o := exo a C none) (by rw [hea1]; exact True.intro) (.inl rfl) k5 ⟨_, e5⟩ (exo_ok e5)
    have eu : upd H1 a (exo a C none) = H1 := by
      funext b
      by_cases hb : b = a
      · rw [hb, upd_same, hea1]
      · rw [upd_ne hb]
    rw [eu] at J
    exact ⟨rfl, H1, J.pins_of (fun p hp => by cases hp), hq⟩
/-- THE RULE for such an __init__ -/
theorem init_ok {e : Expr} {rest : List Stmt} {p0 p1 p2 p3 p4 : Pos} {k : Nat} {sp : Sp} {pl : Str → Addr → Addr → Sem Bool}
    (T : SupF eb P K C f cc cd (PySem.W.ksFn name qual params (.Expr (.Call (.Attribute (.Call (.Name "super" p0) [] [] p1) "__init__" p2) [e] [] p3) p4 :: rest) scope dV kV doc pm an (.ref cd) ct cc)) (hcd : PySem.W.codeIn K (.ref cd) qual = true) (S : ScopeS N ps scope) (hmg : mg ("super" : Str) = none)
    (hN : N[0]? = some ("self" : Str)) (hself : scope.names.lookup ("self" : Str) = some .local) (len : ∀ vs H Q E, sp vs H Q E → vs.length = ps.length)
    (hbody : ∀ (A : Around) (outer : List PySem.Env) (s : Shared) (H : Hp) (vs : List V) (Q : VK) (E : XK), Room k (A.deeper (envS qual scope s.heap.objs.size f (.ref cd) cc)) → sp vs H Q E → ∃ (a : Addr) (ta : TA) (t : TS), (L2.start N vs)[0]? = some (some (.ref a)) ∧ H a = some (exo a C none) ∧
      PA (cxS CX P w K mg base N qual scope f (.ref cd) cc A outer s H E) [e] ta ∧ PSs (cxS CX P w K mg base N qual scope f (.ref cd) cc A outer s H E) rest t ∧
      ta (L2.start N vs) H fun ws H1 => ws.length ≤ 1000 ∧ H1 a = some (exo a C none) ∧ t { nx := fun _ H' => Q .non H', rt := Q } (L2.start N vs) H1)
    (hev : ∀ L : Addr, eval (.Call (.Attribute (.Call (.Name "super" p0) [] [] p1) "__init__" p2) [e] [] p3) (envS qual scope L f (.ref cd) cc) = (do
      let ov ← attributeBase (.Call (.Name "super" p0) [] [] p1) "__init__" (envS qual scope L f (.ref cd) cc) (eval (.Call (.Name "super" p0) [] [] p1) (envS qual scope L f (.ref cd) cc))
      standAt p2.atName
      let (fn, first) ← holding [ov] (getMethod ov "__init__" (pl qual f L))
      callWith p3 fn first (backTo p3 (starEach [e] (envS qual scope L f (.ref cd) cc))) []))
    (hi : ∀ L : Addr, interactive (envS qual scope L f (.ref cd) cc) = false) (hsw : ∀ L : Addr, swapsWith (.Call (.Attribute (.Call (.Name "super" p0) [] [] p1) "__init__" p2) [e] [] p3) none p4.line (envS qual scope L f (.ref cd) cc) = pure false)
    (he : ∀ L : Addr, starEach [e] (envS qual scope L f (.ref cd) cc) = (false, eval e (envS qual scope L f (.ref cd) cc)) :: starEach [] (envS qual scope L f (.ref cd) cc)) :
    FnOk P w K mg base CX (k + 1) f (PySem.W.ksFn name qual params (.Expr (.Call (.Attribute (.Call (.Name "super" p0) [] [] p1) "__init__" p2) [e] [] p3) p4 :: rest) scope dV kV doc pm an (.ref cd) ct cc) ps sp := by
  obtain ⟨oc, od, osl, lk⟩ := T.fn
  obtain ⟨kcl, kcd, ksl, lkcell⟩ := T.cell
  refine ⟨len, fun A outer s H args us vs Q E hr e0 hb r hsp => ?_⟩
  have hl := len _ _ _ _ hsp
  have KX : K.In s.heap := e0.mod.kin.keeps fun b o e => (e0.bs b o e).1
  have lim : s.heap.NoLimit := e0.mod.nolimit.keeps fun b o e => (e0.bs b o e).1
  refine PySem.ks_codeAny_call_defAt hr.depth (KX _ _ lk) rfl lim (PySem.W.codeRec_of KX hcd) rfl hb S.nocell (fun ⟨n, v⟩ hy => S.par n (List.of_mem_zip hy).1) (fun h₀ hns kp => ?_) S.co S.gen S.kind
  obtain ⟨a, ta, t, h0, hea, pa, pr, q⟩ := hbody A outer s H vs Q E (hr.deeper _) hsp
  have I : Inv (cxS CX P w K mg base N qual scope f (.ref cd) cc A outer s H E) [] (L2.start N vs) H { s with heap := h₀, toks := s.toks + (ps.zip us).length } := inv_startS S hr.hd e0 hl r ⟨_, e0.mod.kin _ _ lkcell, _, rfl⟩ hns kp
  refine PySem.ks_wpAt_execs_cons ?_
  refine PySem.ks_wpAt_mono (super_ok (q := fun H1 => t { nx := fun _ H' => Q .non H', rt := Q } (L2.start N vs) H1) T S hmg hN hself h0 I pa hea q (hev _) (hi _) (hsw _) (he _)) (fun fl s' hh => ?_) fun _ _ z => z
  obtain ⟨rfl, H1, I1, q1⟩ := hh
  refine PySem.wpAt_of_wpAny (wpAny_mono (pr.run [] s' _ H1 _ I1 q1) (fun fl s2 hs => ?_) fun _ _ z => z)
  have fin : ∀ {σ' : L2.St} {H' : Hp} {v : V} {u : Value}, Inv (cxS CX P w K mg base N qual scope f (.ref cd) cc A outer s H E) [] σ' H' s2 → L2.RelV v u → Q v H' → CE outer P w H s Q u s2 :=
    fun {σ' H' v u} J rv q => ⟨v, H', J.os, J.bare, J.base, J.hok, rv, q⟩
  cases fl with
  | ret u =>
    obtain ⟨v, σ', H', J, rv, q⟩ := hs
    exact fin J rv q
  | next =>
    obtain ⟨σ', H', J, q⟩ := hs
    exact fin (v := V.non) (u := Value.none) J rfl q
  | brk =>
    obtain ⟨_, _, _, q⟩ := hs
    exact False.elim q
  | cont =>
    obtain ⟨_, _, _, q⟩ := hs
    exact False.elim q
end
end Bx
-- needs excS
-- imports HandS.ExcField HandS.FStr HandS.TryMany HandS.ExcOwn
/-! raise C(), raise C(e): C an own class over ValueError with a tag and, where it has an argument, one field -/
namespace Bx
open PySem PySem.Spec PyProof.Rows L2
/-- all that is known of the class x: C its place, fI its __init__ -/
structure ExcK (eb : EB) (K : PySem.W.Frag) (C fI : Addr) : Prop where
  oex : OexG eb K C
  ini : PySem.W.findIn K (.ref C) "__init__" = some (some (.ref fI))
  fun_ : PySem.W.typeIn K (.ref fI) = some (.type "function")
  xf : XfC K C
  tag : PySem.W.findIn K (.ref C) "tag" = some none
/-- __init__ without an argument -/
def spI0 (C : Addr) (nm : Str) : Sp := fun vs H Q _ => ∃ a, vs = [.ref a] ∧ H a = some (exo a C none) ∧ ∀ dx, H dx = none → dx ≠ a → Q .non (upd (upd H dx (exd dx [("tag", .str nm)])) a (exo a C (some dx)))
/-- __init__ with one -/
def spI1 (C : Addr) (nm fld : Str) (Ok : V → Hp → Prop) : Sp := fun vs H Q _ => ∃ a v, vs = [.ref a, v] ∧ H a = some (exo a C none) ∧ Ok v H ∧ ∀ dx, H dx = none → dx ≠ a → Q .non (upd (upd (upd H dx (exd dx [("tag", .str nm)])) a (exo a C (some dx))) dx (exd dx [(fld, v), ("tag", .str nm)]))
section
variable {eb : EB} {X : Cx} {C fI : Addr} {fd : FuncData} {ps : List Str} {sp : Sp} {k : Nat} {CX : CXT} {pins : List (Addr × Obj)} {σ : L2.St} {H : Hp} {Q : XK} {s : Shared} {us : List Value} {vs : List V}
/-- the class called -/
theorem make_exc (T : ExcK eb X.K C fI) (F1 : FnOk X.prog X.w X.K X.mg X.base CX k fI fd ps sp) (hr : Room (k + 1) X.A) (hb : Binds X.K fd ps []) (hx : Passes CX X (fun _ _ _ => False)) (I : Inv X pins σ H s) (r : Vals vs us) (hz : vs.length ≤ 1000)
    (hq : ∀ a, H a = none → sp (.ref a :: vs) (upd H a (exo a C none)) (fun v H2 => v = .non ∧ ∃ (d : Addr) (fs : List (Str × V)), H2 a = some (exo a C (some d)) ∧ H2 d = some (exd d fs) ∧ H d = none ∧ Q (.ref C) (some d) (upd (del H2 a) d (.xd fs))) (fun _ _ _ => False)) :
    wpAny (model X.prog X.w) X.A (call (.ref C) us) (MkP X pins σ Q) X.xe s := by
  obtain ⟨nm, q, N, bs, bm, sn, sub, ab, col, dd, k0, k1, k2, k3, k5, hC, hbm⟩ := T.oex.cls
  obtain ⟨hp, g, dr, tk, os⟩ := s
  have le : hp.objs.size ≤ hp.objs.size + 1 := Nat.le_succ _
  have kept : ∀ b o, hp.get? b = some o → ((hp.push (PySem.W.kdv_tup us)).push (PySem.HandSPX.excO C hp.objs.size)).get? b = some o := fun b o e => Heap.get?_push_of_some _ (Heap.get?_push_of_some _ e)
  have at1 : ((hp.push (PySem.W.kdv_tup us)).push (PySem.HandSPX.excO C hp.objs.size)).get? (hp.objs.size + 1) = some (PySem.HandSPX.excO C hp.objs.size) := by heap_get
  have J : Inv X pins σ (upd H (hp.objs.size + 1) (exo (hp.objs.size + 1) C none)) ⟨(hp.push (PySem.W.kdv_tup us)).push (PySem.HandSPX.excO C hp.objs.size), g, dr, tk, os⟩ := I.laid (t' := tk) (o := exo (hp.objs.size + 1) C none) kept le (exo_ok at1)
  have q0 := hq (hp.objs.size + 1) (I.hok.fresh le)
  have r2 : Vals (V.ref (hp.objs.size + 1) :: vs) (Value.ref (hp.objs.size + 1) :: us) := .cons rfl r
  have hl : (Value.ref (hp.objs.size + 1) :: us ++ []).length = ps.length := by
    rw [List.append_nil, ← r2.length]
    exact F1.len _ _ _ _ q0
  have hus : us.length ≤ sizeLine := by rw [← Paired.length r, sizeLine_eq]; omega
  have hbt := hb ⟨(hp.push (PySem.W.kdv_tup us)).push (PySem.HandSPX.excO C hp.objs.size), g, dr, tk, os⟩ (Value.ref (hp.objs.size + 1) :: us) J.kIn hl
  rw [List.append_nil] at hbt
  refine wpAny_call (PySem.HandSPX.call_own eb.ex (fun Y => PySem.W.excTail_contains Y bm hbm) (I.kIn _ _ hC) (PySem.W.looks_findIn I.kIn T.ini) (fun self => PySem.W.bind_fn I.kIn self T.fun_) hus ?_)
  refine codeAny_mono (F1.run _ X.stack _ _ ⟨Value.ref (hp.objs.size + 1) :: us, []⟩ (Value.ref (hp.objs.size + 1) :: us) _ _ (fun _ _ _ => False) (hr.make C us []) (J.env0.make C us []) hbt r2 q0) fun res s' hres => ?_
  cases res with
  | error er => exact hx pins σ _ _ er s' J hres
  | ok fl =>
    cases fl with
    | next => exact False.elim hres
    | brk => exact False.elim hres
    | cont => exact False.elim hres
    | ret u =>
      obtain ⟨v, H2, os2, bare2, un2, hok2, rv, ev, d, fs, ea, ed, hd1, q2⟩ := hres
      subst ev
      obtain ⟨h2, g2, d2, t2, os'⟩ := s'
      exact ⟨rv, mk_end (raises_own T.oex.exC T.oex.tyC) I le kept un2 hok2 os2 bare2 ea ed hd1 q2⟩
end
theorem del_two {H : Hp} {a d : Addr} {o1 o2 o3 o4 : HO} (ha : H a = none) (hne : d ≠ a) : upd (del (upd (upd (upd (upd H a o1) d o2) a o3) d o4) a) d o4 = upd (upd H d o4) d o4 := by
  funext b
  by_cases hb : b = d
  · rw [hb, upd_same, upd_same]
  · rw [upd_ne hb, upd_ne hb]
    by_cases hba : b = a
    · rw [hba, del_same, upd_ne hne.symm, ha]
    · rw [del_ne hba, upd_ne hb, upd_ne hba, upd_ne hb, upd_ne hba, upd_ne hb]
theorem upd_upd {H : Hp} {d : Addr} {o o' : HO} : upd (upd H d o) d o' = upd H d o' := by
  funext b
  by_cases hb : b = d
  · rw [hb, upd_same, upd_same]
  · rw [upd_ne hb, upd_ne hb, upd_ne hb]
/-- the end of the first form, of the second -/
theorem fin0 {H : Hp} {a d C : Addr} {nm : Str} (ha : H a = none) (hne : d ≠ a) : upd (del (upd (upd (upd H a (exo a C none)) d (exd d [("tag", .str nm)])) a (exo a C (some d))) a) d (.xd [("tag", .str nm)]) = upd H d (.xd [("tag", .str nm)]) := by
  funext b
  by_cases hb : b = d
  · rw [hb, upd_same, upd_same]
  · rw [upd_ne hb, upd_ne hb]
    by_cases hba : b = a
    · rw [hba, del_same, ha]
    · rw [del_ne hba, upd_ne hba, upd_ne hb, upd_ne hba]
theorem fin1 {H : Hp} {a d C : Addr} {nm fld : Str} {v : V} (ha : H a = none) (hne : d ≠ a) : upd (del (upd (upd (upd (upd H a (exo a C none)) d (exd d [("tag", .str nm)])) a (exo a C (some d))) d (exd d [(fld, v), ("tag", .str nm)])) a) d (.xd [(fld, v), ("tag", .str nm)]) = upd H d (.xd [(fld, v), ("tag", .str nm)]) := by
  funext b
  by_cases hb : b = d
  · rw [hb, upd_same, upd_same]
  · rw [upd_ne hb, upd_ne hb]
    by_cases hba : b = a
    · rw [hba, del_same, ha]
    · rw [del_ne hba, upd_ne hb, upd_ne hba, upd_ne hb, upd_ne hba]
/-- the def at fI keeps the promise of an __init__ -/
def GoodI (eb : EB) (P : Program) (w : World) (K : PySem.W.Frag) (mg : Str → Option Value) (base : Heap) (CX : CXT) (k : Nat) (C : Addr) (x : Str) (ps : List Str) (sp : Sp) : Prop :=
  ∃ fI fd, ExcK eb K C fI ∧ FnOk P w K mg base CX k fI fd ps sp ∧ Binds K fd ps [] ∧ mg x = some (.ref C)
section
variable {eb : EB} {X : Cx} {C : Addr} {k : Nat} {CX : CXT} {x nm fld : Str} {p pos : Pos} {e : Expr} {ta : TA} {Ok : V → Hp → Prop} {ps : List Str}
theorem pmk_0 (G : GoodI eb X.prog X.w X.K X.mg X.base CX k C x ps (spI0 C nm)) (hr : Room (k + 1) X.A) (hg : Gl X x) (hx : Passes CX X (fun _ _ _ => False)) (hdb : (x == ("__debug__" : Str)) = false := by decide) :
    PMk X (.Call (.Name x p) [] [] pos) (fun _ H Q => ∀ d, H d = none → Q (.ref C) (some d) (upd H d (.xd [("tag", .str nm)]))) := by
  obtain ⟨fI, fd, T, F1, hb, hm⟩ := G
  intro pins s σ H Q I h
  refine wpAny_Call_Name_kw (ld_glob I hg hm ?_ hdb)
  refine PySem.W.callWith_K0 I.kIn T.oex.kC ?_
  refine make_exc (us := []) (vs := []) T F1 hr hb hx I .nil (Nat.zero_le _) fun a ha => ⟨a, rfl, upd_same, fun d hd hne => ⟨rfl, d, _, upd_same, by rw [upd_ne hne, upd_same], ?_, ?_⟩⟩
  · rw [upd_ne hne] at hd
    exact hd
  · rw [fin0 ha hne]
    rw [upd_ne hne] at hd
    exact h d hd
theorem pmk_1 (G : GoodI eb X.prog X.w X.K X.mg X.base CX k C x ps (spI1 C nm fld Ok)) (hr : Room (k + 1) X.A) (hg : Gl X x) (hx : Passes CX X (fun _ _ _ => False)) (ha : PA X [e] ta) (hdb : (x == ("__debug__" : Str)) = false := by decide)
    (hst : starEach [e] X.env = (false, eval e X.env) :: starEach [] X.env := by rfl) (hpl : (backTo pos (starEach [] X.env)).any (·.1) = false := by rfl) :
    PMk X (.Call (.Name x p) [e] [] pos) (fun σ H Q => ta σ H fun vs H1 => ∃ v, vs = [v] ∧ (∀ a, H1 a = none → Ok v (upd H1 a (exo a C none))) ∧ ∀ d, H1 d = none → Q (.ref C) (some d) (upd H1 d (.xd [(fld, v), ("tag", .str nm)]))) := by
  obtain ⟨fI, fd, T, F1, hb, hm⟩ := G
  intro pins s σ H Q I h
  refine wpAny_Call_Name_kw (ld_glob I hg hm ?_ hdb)
  refine PySem.W.callWith_K (h₀ := X.base) I.ok.mod.kin T.oex.kC (thn (ha.run pos pins s σ H _ I h) fun us s1 hh => ?_) hst hpl
  obtain ⟨vs, H1, I1, r1, v, rfl, ok, q⟩ := hh
  refine ⟨I1.kIn, ?_⟩
  refine make_exc T F1 hr hb hx I1 r1 (by show 1 ≤ 1000; decide) fun a ha => ⟨a, v, rfl, upd_same, ok a ha, fun d hd hne => ⟨rfl, d, _, by rw [upd_ne hne.symm, upd_same], upd_same, ?_, ?_⟩⟩
  · rw [upd_ne hne] at hd
    exact hd
  · rw [fin1 ha hne]
    rw [upd_ne hne] at hd
    exact q d hd
end
end Bx
/-! slices, kinds, places -/
namespace Bx
open PySem PySem.Spec PyProof.Rows L2
theorem cut_to {xs : List V} {n : Nat} (h : xs.length ≤ n) : cutV xs none (some (n : Int)) = xs := by
  unfold cutV
  rw [HT.sIx_none, HT.sIx_nat, Nat.min_eq_right h, List.drop_zero, Nat.sub_zero, List.take_length]
theorem cut63 {xs : List V} (h : xs.length ≤ 63) : cutV xs none (some 63) = xs := cut_to (n := 63) h
theorem cut_from1 (xs : List V) : cutV xs (some 1) none = xs.drop 1 := by
  unfold cutV
  rw [HT.sIx_none, show (1 : Int) = ((1 : Nat) : Int) from rfl, HT.sIx_nat]
  cases xs with
  | nil => rfl
  | cons x r => simp
theorem tyL {K : PySem.W.Frag} {H : Hp} {a : Addr} {xs : List V} (h : SqL K H a xs) : TyX K H (.ref a) (.type "list") := by
  rcases h with (h | ⟨o, h⟩) | ⟨o, its, n, h, c, _⟩
  · exact .base (.lst h)
  · exact .base (.frz h)
  · exact .kList h c
theorem tyT {K : PySem.W.Frag} {H : Hp} {a : Addr} {xs : List V} (h : SqT K H a xs) : TyX K H (.ref a) (.type "tuple") := by
  rcases h with (h | ⟨o, h⟩) | ⟨o, its, n, h, c, _⟩
  · exact .base (.tup h)
  · exact .fTuple h
  · exact .kTuple h c
/-- isinstance(x, T), both built-in -/
theorem isi {K : PySem.W.Frag} {H : Hp} {x : V} {a b : String} {r : Bool} {Q : VK} (t : TyX K H x (.type a)) (e : kitB a b = some r) (q : Q (.bl r) H) : rIsi K [x, .ty b] H Q :=
  ⟨x, .ty b, _, _, r, rfl, .ty b, t, kit_ty e, q⟩
theorem seqT {K : PySem.W.Frag} {H H' : Hp} {a : Addr} {xs : List V} (e : Same H H') (h : SqT K H a xs) : SqT K H' a xs := by
  rcases h with (h | ⟨o, h⟩) | h
  · exact .inl (.inl (e _ _ h))
  · exact .inl (.inr ⟨o, e _ _ h⟩)
  · exact .inr h
theorem same_new {H : Hp} {p : Addr} {o : HO} (h : H p = none) : Same H (upd H p o) := fun b u q => by rw [upd_ne (ne_of_none q h)]; exact q
/-- an object that H does not know may change -/
theorem same_mut {H H' : Hp} {p : Addr} {o : HO} (e : Same H H') (h : H p = none) : Same H (upd H' p o) := fun b u q => by rw [upd_ne (ne_of_none q h)]; exact e b u q
theorem sz {n : Nat} (h : n ≤ 100000) : n ≤ sizeLine := Nat.le_trans h (by decide)
theorem szl {n : Nat} (h : n < 100000) : n < sizeLine := Nat.lt_of_lt_of_le h (by decide)
/-- all but the object at b is as it was -/
structure Kp (b : Addr) (H H' : Hp) : Prop where
  kp : ∀ a o, a ≠ b → H a = some o → H' a = some o
  inn : ∀ c r, H b = some (.lst (.ref c :: r)) → ∃ r', H' b = some (.lst (.ref c :: r'))
instance {b : Addr} {H H' : Hp} : CoeFun (Kp b H H') (fun _ => ∀ a o, a ≠ b → H a = some o → H' a = some o) := ⟨Kp.kp⟩
theorem Kp.refl (b : Addr) (H : Hp) : Kp b H H := ⟨fun _ _ _ h => h, fun _ r h => ⟨r, h⟩⟩
theorem Kp.trans {b : Addr} {H H1 H2 : Hp} (x : Kp b H H1) (y : Kp b H1 H2) : Kp b H H2 := ⟨fun a o n h => y.kp a o n (x.kp a o n h), fun c r h => by
  obtain ⟨r1, h1⟩ := x.inn c r h
  exact y.inn c r1 h1⟩
theorem Kp.of {b : Addr} {H H' : Hp} (x : Same H H') : Kp b H H' := ⟨fun a o _ h => x a o h, fun c r h => ⟨r, x _ _ h⟩⟩
theorem Kp.put {b c : Addr} {H : Hp} {r r' : List V} (h : H b = some (.lst (.ref c :: r))) : Kp b H (L2.upd H b (.lst (.ref c :: r'))) := ⟨fun a u n h => by rw [upd_ne n]; exact h, fun c' q h2 => by
  rw [h] at h2
  cases h2
  exact ⟨_, upd_same⟩⟩
theorem Kp.new {b p : Addr} {H H' : Hp} {o : HO} (e : Kp b H H') (h : H' p = none) : Kp b H (L2.upd H' p o) := e.trans (Kp.of (same_new h))
end Bx
namespace Bx
open PySem PySem.Spec PyProof.Rows L2
theorem Kp.seq {K : PySem.W.Frag} {b a : Addr} {H H' : Hp} {xs : List V} (e : Kp b H H') (n : a ≠ b) (h : SqL K H a xs) : SqL K H' a xs := by
  rcases h with (h | ⟨o, h⟩) | h
  · exact .inl (.inl (e _ _ n h))
  · exact .inl (.inr ⟨o, e _ _ n h⟩)
  · exact .inr h
end Bx
namespace Bx
open PySem PySem.Spec PyProof.Rows L2
theorem cut_from (xs : List V) (n : Nat) : cutV xs (some (n : Int)) none = xs.drop n := by
  unfold cutV
  rw [HT.sIx_none, HT.sIx_nat]
  by_cases h : n ≤ xs.length
  · rw [Nat.min_eq_left h]
    exact List.take_of_length_le (by rw [List.length_drop]; exact Nat.le_refl _)
  · rw [Nat.min_eq_right (by omega), Nat.sub_self, List.take_zero, List.drop_eq_nil_of_le (by omega)]
theorem atI_nat' {α : Type} {xs : List α} {j : Nat} (h : j < xs.length) : atI xs (j : Int) = some xs[j] := atI_nat (List.getElem?_eq_getElem h)
end Bx
-- needs lists
-- imports HandS.ClsMeth HandS.HeadNt
/-! own classes: made by name or through a local name, classmethods without arguments, `in` by an own __contains__; a head that also reads defs at any address -/
namespace Bx
open PySem PySem.Spec PyProof.Rows L2
section
variable {X : Cx} {CX : CXT} {k i : Nat} {C f pa g : Addr} {mc : Value} {ps : List Str} {sp : Sp} {E : XK} {x m : Str} {p pos apos : Pos} {o e : Expr} {es : List Expr} {t : TA} {ta : TE}
theorem pe_mkG (M : Mk X.K C f) (G : GoodM X.prog X.w X.K X.mg X.base CX k f ps sp) (hr : Room (k + 1) X.A) (hg : Gl X x) (hm : X.mg x = some (.ref C)) (hx : Passes CX X E)
    (ha : PA X (e :: es) t) (hdb : (x == ("__debug__" : Str)) = false := by decide) (he : starEach (e :: es) X.env = (false, eval e X.env) :: starEach es X.env := by rfl) (hpl : (backTo pos (starEach es X.env)).any (·.1) = false := by rfl) :
    PE X (.Call (.Name x p) (e :: es) [] pos) (tMake C sp [] E t) := by
  obtain ⟨fd, F, b⟩ := G
  exact pe_make M F hr hg hm b .nil hx ha hdb he hpl
/-- a local name that holds a class, called -/
def tMakeV (i : Nat) (C : Addr) (sp : Sp) (E : XK) (t : TA) : TE := fun σ H Q => σ[i]? = some (some (.ref C)) ∧ t σ H fun vs H1 => ∀ x dx, H1 x = none → H1 dx = none → dx ≠ x →
  sp (.ref x :: (vs ++ [])) (upd (upd H1 dx (.own x)) x (.ins C dx [])) (fun v H2 => v = .non ∧ Q (.ref x) H2) E
theorem pe_mkV (M : Mk X.K C f) (G : GoodM X.prog X.w X.K X.mg X.base CX k f ps sp) (hr : Room (k + 1) X.A) (hN : X.N[i]? = some x) (hv : Vis X.env.scope x) (hx : Passes CX X E)
    (ha : PA X (e :: es) t) (hdb : (x == ("__debug__" : Str)) = false := by decide) (hcd : (x == ("__classdict__" : Str)) = false := by decide) (he : starEach (e :: es) X.env = (false, eval e X.env) :: starEach es X.env := by rfl) (hpl : (backTo pos (starEach es X.env)).any (·.1) = false := by rfl) :
    PE X (.Call (.Name x p) (e :: es) [] pos) (tMakeV i C sp E t) := by
  obtain ⟨fd, F, b⟩ := G
  refine ⟨fun pins s σ H Q I h => ?_⟩
  obtain ⟨hs, ht⟩ := h
  refine wpAny_Call_Name_kw (thn ((pe_var (pos := p) hN hv hdb hcd).run pins s σ H (fun v H1 => v = .ref C ∧ H1 = H) I ⟨.ref C, hs, rfl, rfl⟩) fun u s1 ⟨v, H1, I1, r1, q1⟩ => ?_)
  obtain ⟨rfl, rfl⟩ := q1
  cases r1
  refine PySem.W.callWith_K (h₀ := X.base) I.ok.mod.kin M.kp (thn (ha.run pos pins s1 σ _ _ I1 ht) fun us s2 ⟨vs, H2, I2, r, q⟩ => ⟨I2.kIn, ?_⟩) he hpl
  exact run_make M F hr b .nil hx I2 r q
/-- C.m() of a classmethod -/
theorem pe_cmeth0 {pl : Sem Bool} (he : PE X o ta) (r : ClX.CRead X.K C mc) (c : ClX.CMet X.K C mc m pa g) (F : FnR X.prog X.w X.K X.mg X.base CX k g sp) (hr : Room k X.A) (hx : Passes CX X E)
    (ht : eval (.Call (.Attribute o m apos) [] [] pos) X.env = (do
      let ov ← eval o X.env
      standAt apos.atName
      let (f, first) ← holding [ov] (getMethod ov m pl)
      callWith pos f first (backTo pos (starEach [] X.env)) (backToKw pos (keywordEach [] X.env))) := by rfl) :
    PE X (.Call (.Attribute o m apos) [] [] pos) (ClX.tCMeth C sp E ta tNil) := by
  refine ⟨fun pins s σ H Q I h => ?_⟩
  refine PySem.W.methodCall_KW (pl := pl) (thn (he.run pins s σ H _ I h) fun u s1 ⟨x, H1, I1, rx, ex, q⟩ => ?_) ht
  subst ex
  obtain rfl : u = Value.ref C := rx
  refine ClX.getmethcm_ok I1 r c fun s2 I2 => ?_
  exact PySem.W.callWith_M0 (K := X.K) (first := []) ⟨ClX.pin_at I2, I2.kIn⟩ c.fi (ClX.run_cm (us := []) F hr hx I2 .nil q)
/-- x in o, o an instance of the class at C with an own __contains__ -/
def rInC (C : Addr) (sp : Sp) (E : XK) : R2 := fun x y H Q => ∃ a dx fs, y = .ref a ∧ H a = some (.ins C dx fs) ∧ sp [.ref a, x] H (fun v H' => ∃ b : Bool, v = .bl b ∧ Q (.bl b) H') E
theorem op_inC (hs : Meth X.K C "__contains__" f) (F : FnR X.prog X.w X.K X.mg X.base CX k f sp) (hr : Room k X.A) (hx : Passes CX X E) : OpR X (compareOp .In) (rInC C sp E) := by
  intro pins s σ H x y v u Q I rx ry h
  obtain ⟨a, dx, fs, rfl, ha, hsp⟩ := h
  obtain rfl : u = Value.ref a := ry
  obtain ⟨mA, O, _, _, _, _⟩ := ins_get I.hok ha
  obtain ⟨od, J, _⟩ := O.look
  obtain ⟨m, hF⟩ := I.fr
  refine PySem.W.in_K hF I.ok.mod.kin J hs.at_ (by exact hs.fn) ?_
  refine thn (wpAny_call (run_fnR (us := [.ref a, v]) (vs := [.ref a, x]) F hr hx I (.cons rfl (.cons rx .nil)) hsp)) fun r s1 ⟨z, H1, I1, rz, b, ez, q⟩ => ?_
  subst ez
  obtain rfl : r = Value.bool b := rz
  exact wpAny_truthy_bool ⟨.bl b, H1, I1, rfl, q⟩
end
/-- what the head must tell of a class's reading -/
def creadB (K : PySem.W.Frag) (C : Addr) : Bool := PySem.W.readsIn K C (.type "type") && He.eqO (PySem.W.specialIn K (.ref C) "__getattribute__") (some (some (.builtin "type.__getattribute__")))
theorem creadB_ok {K : PySem.W.Frag} {C : Addr} (h : creadB K C = true) : ClX.CRead K C (.type "type") := by
  obtain ⟨h1, h2⟩ := He.ba h
  exact ⟨h1, He.eqO_ok h2⟩
def cmetB (K : PySem.W.Frag) (C : Addr) (m : Str) : Bool := He5.wrapB K C "classmethod" "classmethod.__get__" m && PySem.W.fnIn K (He5.wf K C "classmethod" m)
theorem cmetB_ok {K : PySem.W.Frag} {C : Addr} {m : Str} (h : cmetB K C m = true) : ClX.CMet K C (.type "type") m (He.ma K C m) (He5.wf K C "classmethod" m) := by
  obtain ⟨h1, h2⟩ := He.ba h
  exact He5.cmet_of h1 h2
/-- names, defs, defs at any address, more -/
abbrev AlZ : Type := He.AlD × He.AlD × Bool
def obsZ (n : Nat) (fa : List He.Fa) (fn : List He.DefD) (fna : List He5.DefA) (ex : PySem.W.Frag → Bool) (g : Addr → Option Obj) : AlZ :=
  (He.obsD fa fn (He.frG g (He5.asA g n)), He5.obsA [] fna (He.frG g (He5.asA g n)), ex (He.frG g (He5.asA g n)))
def valZ (fn : List He.DefD) (fna : List He5.DefA) : AlZ := (He.valD fn, He5.valA fna, true)
structure SaysZ (fa : List He.Fa) (fn : List He.DefD) (fna : List He5.DefA) (ex : PySem.W.Frag → Bool) (K : PySem.W.Frag) : Prop where
  d : He.SaysD fa fn K
  a : He5.SaysA [] fna K
  more : ex K = true
def hookZ (n : Nat) (fa : List He.Fa) (fn : List He.DefD) (fna : List He5.DefA) (ex : PySem.W.Frag → Bool) : PySem.W.Hook where
  α := AlZ
  obs := fun s => obsZ n fa fn fna ex s.heap.get?
  val := fun _ => valZ fn fna
  says := fun _ h => ∃ K : PySem.W.Frag, K.In h ∧ SaysZ fa fn fna ex K
  of := fun _ _ e => ⟨_, He.frG_in, ⟨congrArg (fun z : AlZ => z.1) e, congrArg (fun z : AlZ => z.2.1) e, congrArg (fun z : AlZ => z.2.2) e⟩⟩
  keeps := fun _ _ _ ⟨K, hK, c⟩ k => ⟨K, PySem.W.Frag.In.keeps hK k, c⟩
theorem obsZ_eq {n : Nat} {fa : List He.Fa} {fn : List He.DefD} {fna : List He5.DefA} {ex : PySem.W.Frag → Bool} {g : Addr → Option Obj} {s : Shared} (h : ∀ a, g a = s.heap.get? a) : obsZ n fa fn fna ex g = (hookZ n fa fn fna ex).obs s := by
  have e : g = s.heap.get? := funext h
  rw [e] <;> rfl
end Bx
-- needs clsrules
-- imports HandS.Star HandS.Codes HandS.Property KE.KOpsOwn
/-! own classes: made with *items, own operators, own == and ~, isinstance -/
namespace Bx
open PySem PySem.Spec PyProof.Rows L2
section
variable {X : Cx} {CX : CXT} {k i : Nat} {C f : Addr} {ps : List Str} {sp : Sp} {E : XK} {x m : Str} {p pos sp_ : Pos} {e : Expr} {te : TE}
/-- C(*items) -/
def tMakeS (K : PySem.W.Frag) (C : Addr) (sp : Sp) (E : XK) (te : TE) : TE := fun σ H Q => te σ H fun y H1 => ∃ a xs, y = V.ref a ∧ (SqT K H1 a xs ∨ SqL K H1 a xs) ∧ ∀ x dx, H1 x = none → H1 dx = none → dx ≠ x →
  sp (.ref x :: (xs ++ [])) (upd (upd H1 dx (.own x)) x (.ins C dx [])) (fun v H2 => v = .non ∧ Q (.ref x) H2) E
theorem pe_mkS (M : Mk X.K C f) (G : GoodM X.prog X.w X.K X.mg X.base CX k f ps sp) (hr : Room (k + 1) X.A) (hg : Gl X x) (hm : X.mg x = some (.ref C)) (hx : Passes CX X E) (he : PE X e te) (hd : (x == ("__debug__" : Str)) = false := by decide)
    (hst : starEach [.Starred e sp_] X.env = [(true, eval e X.env)] := by rfl) : PE X (.Call (.Name x p) [.Starred e sp_] [] pos) (tMakeS X.K C sp E te) := by
  obtain ⟨fd, F, b⟩ := G
  refine ⟨fun pins s σ H Q I h => ?_⟩
  refine wpAny_Call_Name_kw (ld_glob I hg hm ?_ hd)
  refine PySem.W.callWith_S (h₀ := X.base) I.ok.mod.kin M.kp (thn (he.run pins s σ H _ I h) fun v s1 ⟨y, H1, I1, ry, a, xs, ey, hxs, q⟩ => ?_) hst
  subst ey
  obtain rfl : v = Value.ref a := ry
  exact StX.star_any I1 hxs fun us s2 I2 rv => ⟨I2.kIn, run_make M F hr b .nil hx I2 rv q⟩
/-- an instance of the class at C -/
def InsAt (C : Addr) (H : Hp) (a : Addr) : Prop := ∃ dx fs, H a = some (.ins C dx fs)
/-- x op y of two instances of C by C's own method, which gives an object -/
def rBinC (C : Addr) (sp : Sp) (E : XK) : R2 := fun x y H Q => ∃ a b, x = .ref a ∧ y = .ref b ∧ InsAt C H a ∧ InsAt C H b ∧ sp [.ref a, .ref b] H (fun v H' => ∃ z, v = .ref z ∧ Q v H') E
theorem op_binC {op : Operator} (hs : Meth X.K C m f) (hd : PySem.dunder op.info.2 = m) (hsf : PySem.W.selfFirst X.K C = true) (F : FnR X.prog X.w X.K X.mg X.base CX k f sp) (hr : Room k X.A) (hx : Passes CX X E) : OpR X (binaryOp op) (rBinC C sp E) := by
  intro pins s σ H x y v u Q I rx ry h
  obtain ⟨a, b, rfl, rfl, ⟨dx, fs, ha⟩, ⟨dy, gs, hb⟩, hsp⟩ := h
  obtain rfl : v = Value.ref a := rx
  obtain rfl : u = Value.ref b := ry
  obtain ⟨mA, O, _⟩ := ins_get I.hok ha
  obtain ⟨mB, O', _⟩ := ins_get I.hok hb
  obtain ⟨od, J, _⟩ := O.look
  obtain ⟨od', J', _⟩ := O'.look
  obtain ⟨m', hF⟩ := I.fr
  refine PySem.W.binop_K hF I.ok.mod.kin J J'.type hsf (by rw [hd]; exact hs.at_) (by exact hs.fn) ?_
  refine thn (wpAny_call (run_fnR (us := [.ref a, .ref b]) (vs := [.ref a, .ref b]) F hr hx I (.cons rfl (.cons rfl .nil)) hsp)) fun r s1 ⟨z, H1, I1, rz, w, ez, q⟩ => ?_
  subst ez
  obtain rfl : r = Value.ref w := rz
  exact ⟨.ref w, H1, I1, rfl, q⟩
/-- x == y of two instances of C by C's own __eq__ -/
def rEqC (C : Addr) (sp : Sp) (E : XK) : R2 := fun x y H Q => ∃ a b, x = .ref a ∧ y = .ref b ∧ InsAt C H a ∧ InsAt C H b ∧ sp [.ref a, .ref b] H (fun v H' => ∃ z : Bool, v = .bl z ∧ Q v H') E
theorem op_eqC (hu : X.A.units < cLine) (hs : Meth X.K C "__eq__" f) (F : FnR X.prog X.w X.K X.mg X.base CX k f sp) (hr : Room k X.A) (hx : Passes CX X E) : OpR X (compareOp .Eq) (rEqC C sp E) := by
  intro pins s σ H x y v u Q I rx ry h
  obtain ⟨a, b, rfl, rfl, ⟨dx, fs, ha⟩, ⟨dy, gs, hb⟩, hsp⟩ := h
  obtain rfl : v = Value.ref a := rx
  obtain rfl : u = Value.ref b := ry
  obtain ⟨mA, O, _⟩ := ins_get I.hok ha
  obtain ⟨mB, O', _⟩ := ins_get I.hok hb
  obtain ⟨od, J, _⟩ := O.look
  obtain ⟨od', J', _⟩ := O'.look
  obtain ⟨m', hF⟩ := I.fr
  refine PySem.W.cmp_K (op := .Eq) (tb := .ref C) hu hF I.ok.mod.kin J J'.type (by simp [PySem.W.notFirst]) hs.at_ (by exact hs.fn) ?_
  refine thn (wpAny_call (run_fnR (us := [.ref a, .ref b]) (vs := [.ref a, .ref b]) F hr hx I (.cons rfl (.cons rfl .nil)) hsp)) fun r s1 ⟨z, H1, I1, rz, w, ez, q⟩ => ?_
  subst ez
  obtain rfl : r = Value.bool w := rz
  exact ⟨.bl w, H1, I1, rfl, q⟩
/-- ~x by C's own __invert__ -/
def rInvC (C : Addr) (sp : Sp) (E : XK) : V → Hp → VK → Prop := fun x H Q => ∃ a, x = .ref a ∧ InsAt C H a ∧ sp [.ref a] H Q E
theorem un_invC (hs : Meth X.K C "__invert__" f) (F : FnR X.prog X.w X.K X.mg X.base CX k f sp) (hr : Room k X.A) (hx : Passes CX X E) : UnR X (unaryOp .Invert) (rInvC C sp E) := by
  intro pins s σ H x v Q I rx h
  obtain ⟨a, rfl, ⟨dx, fs, ha⟩, hsp⟩ := h
  obtain rfl : v = Value.ref a := rx
  obtain ⟨mA, O, _⟩ := ins_get I.hok ha
  obtain ⟨od, J, _⟩ := O.look
  obtain ⟨m', hF⟩ := I.fr
  refine PySem.W.ksp_inv hF I.ok.mod.kin J hs.at_ (by exact hs.fn) ?_
  exact wpAny_call (run_fnR (us := [.ref a]) (vs := [.ref a]) F hr hx I (.cons rfl .nil) hsp)
end
section
variable {X : Cx} {CX : CXT} {k : Nat} {C f : Addr} {ps : List Str} {sp : Sp} {E : XK} {m : Str} {pos apos : Pos} {o e : Expr} {es : List Expr} {ta : TE} {t : TA} {pl : Sem Bool}
/-- o.m() -/
theorem pe_mG0 (he : PE X o ta) (c : L2.Cls X.K C) (hm : Meth X.K C m f) (G : GoodM X.prog X.w X.K X.mg X.base CX k f ps sp) (hr : Room k X.A) (hx : Passes CX X E)
    (ht : eval (.Call (.Attribute o m apos) [] [] pos) X.env = (do
      let ov ← eval o X.env
      standAt apos.atName
      let (f, first) ← holding [ov] (getMethod ov m pl)
      callWith pos f first (backTo pos (starEach [] X.env)) (backToKw pos (keywordEach [] X.env))) := by rfl) : PE X (.Call (.Attribute o m apos) [] [] pos) (tMeth C m sp [] E ta tNil) := by
  obtain ⟨fd, F, b⟩ := G
  exact pe_meth0 he c hm F hr b .nil hx ht
/-- o.m(e, ..) -/
theorem pe_mG (he : PE X o ta) (c : L2.Cls X.K C) (hm : Meth X.K C m f) (G : GoodM X.prog X.w X.K X.mg X.base CX k f ps sp) (hr : Room k X.A) (hx : Passes CX X E) (ha : PA X (e :: es) t)
    (hst : starEach (e :: es) X.env = (false, eval e X.env) :: starEach es X.env := by rfl) (hpl : (backTo pos (starEach es X.env)).any (·.1) = false := by rfl)
    (ht : eval (.Call (.Attribute o m apos) (e :: es) [] pos) X.env = (do
      let ov ← eval o X.env
      standAt apos.atName
      let (f, first) ← holding [ov] (getMethod ov m pl)
      callWith pos f first (backTo pos (starEach (e :: es) X.env)) (backToKw pos (keywordEach [] X.env))) := by rfl) : PE X (.Call (.Attribute o m apos) (e :: es) [] pos) (tMeth C m sp [] E ta t) := by
  obtain ⟨fd, F, b⟩ := G
  exact pe_meth he c hm F hr b .nil hx ha hst hpl ht
theorem hu1 {A : Around} (h : A.units + 64 < cLine) : A.units < cLine := Nat.lt_of_le_of_lt (Nat.le_add_right _ 64) h
end
section
variable {X : Cx} {CX : CXT} {k : Nat} {C f p g : Addr} {ps : List Str} {sp : Sp} {E : XK} {m kn x : Str} {pos apos : Pos} {o e : Expr} {kws : List Keyword} {ta : TE} {tk : TA} {pl : Sem Bool}
/-- e.f, a property -/
theorem pe_propG (he : PE X e ta) (c : L2.Cls X.K C) (hp : PropOf X.K C x p g) (G : GoodM X.prog X.w X.K X.mg X.base CX k g ps sp) (hr : Room (k + 1) X.A) (hx : Passes CX X.nox E)
    (hab : attributeBase e x X.env (eval e X.env) = eval e X.env) : PE X (.Attribute e x pos) (tProp C sp [] E ta) := by
  obtain ⟨fd, F, b⟩ := G
  exact pe_prop he c hp F hr b .nil hx hab
/-- a method that is called with one keyword, too -/
def GoodMK (P : Program) (w : World) (K : PySem.W.Frag) (mg : Str → Option Value) (base : Heap) (CX : CXT) (k : Nat) (f : Addr) (ps : List Str) (kn : Str) (sp : Sp) : Prop :=
  ∃ fd, FnOk P w K mg base CX k f fd ps sp ∧ Binds K fd ps [] ∧ ∀ (s : Shared) (u v : Value), BindsTo s fd ⟨[u], [(kn, v)]⟩ (ps.zip [u, v])
theorem GoodMK.good {P : Program} {w : World} {K : PySem.W.Frag} {mg : Str → Option Value} {base : Heap} {f : Addr} (h : GoodMK P w K mg base CX k f ps kn sp) : GoodM P w K mg base CX k f ps sp := by
  obtain ⟨fd, F, b, _⟩ := h
  exact ⟨fd, F, b⟩
/-- o.m(k = v) -/
def tMethK (C : Addr) (m : Str) (sp : Sp) (E : XK) (ta : TE) (tk : TA) : TE := fun σ H Q => ta σ H fun x H1 => ∃ a dx fs, x = .ref a ∧ H1 a = some (.ins C dx fs) ∧ fs.lookup m = none ∧ tk σ H1 fun zs H2 => ∃ z, zs = [z] ∧ sp [x, z] H2 Q E
theorem pe_mGk (he : PE X o ta) (c : L2.Cls X.K C) (hm : Meth X.K C m f) (G : GoodMK X.prog X.w X.K X.mg X.base CX k f ps kn sp) (hr : Room k X.A) (hx : Passes CX X E) (hkw : PK X kws tk)
    (hall : (backToKw pos (keywordEach kws X.env)).all (·.1.isSome) = true := by rfl) (hks : (backToKw pos (keywordEach kws X.env)).filterMap (·.1) = [kn] := by rfl)
    (hpl : ((backTo pos (starEach [] X.env)).any (·.1) || (backToKw pos (keywordEach kws X.env)).any (·.1.isNone)) = false := by rfl)
    (ht : eval (.Call (.Attribute o m apos) [] kws pos) X.env = (do
      let ov ← eval o X.env
      standAt apos.atName
      let (f, first) ← holding [ov] (getMethod ov m pl)
      callWith pos f first (backTo pos (starEach [] X.env)) (backToKw pos (keywordEach kws X.env))) := by rfl) :
    PE X (.Call (.Attribute o m apos) [] kws pos) (tMethK C m sp E ta tk) := by
  obtain ⟨fd, F, _, hb⟩ := G
  refine ⟨fun pins s σ H Q I h => ?_⟩
  refine PySem.W.methodCall_KW (pl := pl) (thn (he.run pins s σ H _ I h) fun u s1 ⟨x, H1, I1, rx, a, dx, fs, ex, ea, l, q⟩ => ?_) ht
  subst ex
  obtain rfl : u = Value.ref a := rx
  refine getmeth_ok I1 ea c hm l ?_
  refine PySem.W.callWith_KW0 (first := [.ref a]) (h₀ := X.base) I.ok.mod.kin hm.kp hall (thn (hkw.run pos pins s1 σ H1 _ I1 q) fun ws s2 ⟨zs, H2, I2, rz, z, ez, q2⟩ => ⟨I2.kIn, ?_⟩) hpl
  subst ez
  obtain ⟨w, rfl, rw'⟩ := vals1 rz
  rw [hks]
  refine wpAny_call (codeAny_mono (F.run X.A X.stack s2 H2 ⟨[.ref a], [(kn, w)]⟩ [.ref a, w] [.ref a, z] Q E hr I2.env0 (hb s2 (.ref a) w) (.cons rfl (.cons rw' .nil)) q2) fun r s' hq => ?_)
  cases r with
  | error e => exact hx pins σ H2 s2 e s' I2 hq
  | ok fl =>
    cases fl with
    | ret u => exact I2.after hq
    | next => exact False.elim hq
    | brk => exact False.elim hq
    | cont => exact False.elim hq
end
/-- what the head must tell of a property -/
def propB (K : PySem.W.Frag) (C : Addr) (f : Str) : Bool := He.eqO (PySem.W.findIn K (.ref C) f) (some (some (.ref (He.ma K C f)))) && (He.eqO (PySem.W.specialIn K (.ref (He.ma K C f)) "__get__") (some (some (.builtin "property.__get__"))) && (decide (PySem.W.takesIn K (.ref (He.ma K C f)) = some true) &&
  (match PySem.W.recIn K (He.ma K C f) "property" with
    | some (.ref _ :: _) => true
    | _ => false)))
theorem propB_ok {K : PySem.W.Frag} {C : Addr} {f : Str} (h : propB K C f = true) : PropOf K C f (He.ma K C f) (He5.wf K C "property" f) := by
  obtain ⟨h1, h⟩ := He.ba h
  obtain ⟨h2, h⟩ := He.ba h
  obtain ⟨h3, h4⟩ := He.ba h
  refine ⟨He.eqO_ok h1, He.eqO_ok h2, of_decide_eq_true h3, ?_⟩
  unfold He5.wf
  split at h4
  · rename_i g r e
    exact ⟨r, by rw [e]⟩
  · cases h4
/-- what isinstance asks of an own class, as one Bool -/
def insB (K : PySem.W.Frag) (C : Addr) : Bool := He.eqO (PySem.W.findIn K (.ref C) "__class__") (some (some (.builtin "object.__class__"))) && (He.eqO (PySem.W.specialIn K (.builtin "object.__class__") "__get__") (some (some (.builtin "getset_descriptor.__get__"))) &&
  (decide (PySem.W.takesIn K (.builtin "object.__class__") = some true) && (decide (PySem.W.mroIn K C (.type "object") = some true) && decide (PySem.W.kitOne K (.ref C) (.ref C) = some true))))
theorem insB_ok {K : PySem.W.Frag} {C : Addr} (c : L2.Cls K C) (h : insB K C = true) : C8.InsC K C := by
  obtain ⟨h1, h⟩ := He.ba h
  obtain ⟨h2, h⟩ := He.ba h
  obtain ⟨h3, h⟩ := He.ba h
  obtain ⟨h4, h5⟩ := He.ba h
  exact ⟨c, He.eqO_ok h1, He.eqO_ok h2, of_decide_eq_true h3, of_decide_eq_true h4, of_decide_eq_true h5⟩
end Bx
-- needs clsops
-- imports HandS.Defaults
/-! o.m(e, .., k = v, ..): a method called by place and by keywords, with keyword-only parameters -/
namespace Bx
open PySem PySem.Spec PyProof.Rows L2
/-- the method at f, called by n values (self among them) and the keywords ks -/
def GoodMN (P : Program) (w : World) (K : PySem.W.Frag) (mg : Str → Option Value) (base : Heap) (CX : CXT) (k : Nat) (f : Addr) (n : Nat) (ks ps : List Str) (gV : List V → List V → List V) (sp : Sp) : Prop :=
  ∃ fd, FnOk P w K mg base CX k f fd ps sp ∧ ∃ g, KBn K fd ps n ks g gV
theorem bindsWK {K : PySem.W.Frag} {x qual : Str} {params : Arguments} {body : List Stmt} {scope : Scope} {kws : List (Str × V)} {f : Addr} {fd : FuncData} {args : Args} {binds : List (Str × Value)} (F : FunD K x qual params body scope [] kws f fd)
    (h : ∀ (kV doc pm : Value) (an : Option Addr) (cdv ct : Value), bindArgs (PySem.W.fnOf x qual params body scope .none kV doc pm an cdv ct) args = pure binds) (s : Shared) : BindsTo s fd args binds := F.bindsW h s
section
variable {X : Cx} {CX : CXT} {k n : Nat} {C f : Addr} {ps ks : List Str} {sp : Sp} {E : XK} {m : Str} {pos apos : Pos} {o e : Expr} {es : List Expr} {kws : List Keyword} {ta : TE} {t tk : TA} {pl : Sem Bool} {gV : List V → List V → List V}
/-- o.m(e, .., k = v, ..) -/
def tMethN (C : Addr) (m : Str) (n nk : Nat) (sp : Sp) (gV : List V → List V → List V) (E : XK) (ta : TE) (t tk : TA) : TE := fun σ H Q => ta σ H fun x H1 => ∃ a dx fs, x = .ref a ∧ H1 a = some (.ins C dx fs) ∧ fs.lookup m = none ∧
  t σ H1 fun vs H2 => tk σ H2 fun zs H3 => vs.length + 1 = n ∧ zs.length = nk ∧ sp (gV (x :: vs) zs) H3 Q E
theorem pe_mGN (he : PE X o ta) (c : L2.Cls X.K C) (hm : Meth X.K C m f) (G : GoodMN X.prog X.w X.K X.mg X.base CX k f n ks ps gV sp) (hr : Room k X.A) (hx : Passes CX X E) (ha : PA X (e :: es) t) (hkw : PK X kws tk)
    (hall : (backToKw pos (keywordEach kws X.env)).all (·.1.isSome) = true := by rfl) (hks : (backToKw pos (keywordEach kws X.env)).filterMap (·.1) = ks := by rfl)
    (hst : starEach (e :: es) X.env = (false, eval e X.env) :: starEach es X.env := by rfl)
    (hpl : ((backTo pos (starEach (e :: es) X.env)).any (·.1) || (backToKw pos (keywordEach kws X.env)).any (·.1.isNone)) = false := by rfl)
    (ht : eval (.Call (.Attribute o m apos) (e :: es) kws pos) X.env = (do
      let ov ← eval o X.env
      standAt apos.atName
      let (f, first) ← holding [ov] (getMethod ov m pl)
      callWith pos f first (backTo pos (starEach (e :: es) X.env)) (backToKw pos (keywordEach kws X.env))) := by rfl) :
    PE X (.Call (.Attribute o m apos) (e :: es) kws pos) (tMethN C m n ks.length sp gV E ta t tk) := by
  obtain ⟨fd, F, g, hb⟩ := G
  refine ⟨fun pins s σ H Q I h => ?_⟩
  refine PySem.W.methodCall_KW (pl := pl) (thn (he.run pins s σ H _ I h) fun u s1 ⟨x, H1, I1, rx, a, dx, fs, ex, ea, l, q⟩ => ?_) ht
  subst ex
  obtain rfl : u = Value.ref a := rx
  refine getmeth_ok I1 ea c hm l ?_
  refine PySem.W.callWith_KW (first := [.ref a]) (h₀ := X.base) I.ok.mod.kin hm.kp hall (thn (ha.run pos pins s1 σ H1 _ I1 q) fun us s2 ⟨vs, H2, I2, r, q2⟩ => ?_) hpl hst
  refine thn (hkw.run pos pins s2 σ H2 _ I2 q2) fun ws s3 ⟨zs, H3, I3, rz, l1, l2, q3⟩ => ⟨I3.kIn, ?_⟩
  rw [hks]
  exact run_fnN (us := .ref a :: us) (vs := .ref a :: vs) F hr hb hx I3 (.cons rfl r) rz l1 l2 q3
/-- o.m(k = v, ..) -/
theorem pe_mGN0 (he : PE X o ta) (c : L2.Cls X.K C) (hm : Meth X.K C m f) (G : GoodMN X.prog X.w X.K X.mg X.base CX k f n ks ps gV sp) (hr : Room k X.A) (hx : Passes CX X E) (hkw : PK X kws tk)
    (hall : (backToKw pos (keywordEach kws X.env)).all (·.1.isSome) = true := by rfl) (hks : (backToKw pos (keywordEach kws X.env)).filterMap (·.1) = ks := by rfl)
    (hpl : ((backTo pos (starEach [] X.env)).any (·.1) || (backToKw pos (keywordEach kws X.env)).any (·.1.isNone)) = false := by rfl)
    (ht : eval (.Call (.Attribute o m apos) [] kws pos) X.env = (do
      let ov ← eval o X.env
      standAt apos.atName
      let (f, first) ← holding [ov] (getMethod ov m pl)
      callWith pos f first (backTo pos (starEach [] X.env)) (backToKw pos (keywordEach kws X.env))) := by rfl) :
    PE X (.Call (.Attribute o m apos) [] kws pos) (tMethN C m n ks.length sp gV E ta tNil tk) := by
  obtain ⟨fd, F, g, hb⟩ := G
  refine ⟨fun pins s σ H Q I h => ?_⟩
  refine PySem.W.methodCall_KW (pl := pl) (thn (he.run pins s σ H _ I h) fun u s1 ⟨x, H1, I1, rx, a, dx, fs, ex, ea, l, q⟩ => ?_) ht
  subst ex
  obtain rfl : u = Value.ref a := rx
  refine getmeth_ok I1 ea c hm l ?_
  refine PySem.W.callWith_KW0 (first := [.ref a]) (h₀ := X.base) I.ok.mod.kin hm.kp hall (thn (hkw.run pos pins s1 σ H1 _ I1 q) fun ws s3 ⟨zs, H3, I3, rz, l1, l2, q3⟩ => ⟨I3.kIn, ?_⟩) hpl
  rw [hks, List.append_nil]
  exact run_fnN (us := [.ref a]) (vs := [.ref a]) F hr hb hx I3 (.cons rfl .nil) rz l1 l2 q3
end
end Bx
-- needs excS methk
-- imports HandS.ClsMeth
/-! a def whose first statement calls super().m(..), m a method of the base at the address g; self is an instance of the very class -/
namespace Bx
open PySem PySem.Spec PyProof.Rows L2
/-- what the written part says of a method of C at f that reads super(), and of the base's m at g -/
structure SupM (P : Program) (K : PySem.W.Frag) (C f cc cd : Addr) (fd : FuncData) (m : Str) (g : Addr) : Prop where
  fn : ∃ oc od osl, K.lookup f = some ⟨oc, od, .func fd, osl⟩
  self : ∃ ar, (fd.params.posonlyargs ++ fd.params.args).head? = some ar ∧ ar.arg = "self"
  code : ∃ (cl : Value) (cdd : Option Addr) (vs : Array Value) (ccs : Array (Option Value)) (file : Str) (tf : PySem.Tok), K.lookup cd = some ⟨cl, cdd, .fields vs, ccs⟩ ∧ vs[2]? = some (.str file tf) ∧ MainP P file
  cell : ∃ (cl : Value) (cld : Option Addr) (csl : Array (Option Value)), K.lookup cc = some ⟨cl, cld, .cell (some (.ref C)), csl⟩
  cls : ∃ cdC, PySem.W.clsIn K C = some cdC
  sub : PySem.W.mroIn K C (.ref C) = some true
  sup : PySem.W.ks_superIn K C C m = some (some (.ref g))
  ty : PySem.W.typeIn K (.ref g) = some (.type "function")
  fi : PySem.W.fnIn K g = true
  stat : PySem.W.nsIn K cStatics "thirdparty.any" = some none
  nm : (m == ("__class__" : Str)) = false
section
variable {CX : CXT} {P : Program} {w : World} {K : PySem.W.Frag} {mg : Str → Option Value} {base : Heap} {N : List Str} {name qual : Str} {params : Arguments} {body : List Stmt} {scope : Scope} {dV kV doc pm ct : Value} {an : Option Addr} {f cc cd C a g dx : Addr} {A : Around} {outer : List PySem.Env} {s0 s : Shared} {H0 H : Hp} {E : XK} {σ : L2.St} {ps : List Str} {m : Str} {fs : List (Str × V)}
theorem wpAt_MethodCallK {M : Model} {A : Around} {c : Code} {env : PySem.Env} {E : Value → Shared → Prop} {s : Shared} {o : Expr} {name : Str} {apos pos : Pos} {args : List Expr} {kws : List Keyword} {pl : Sem Bool} {Q : Value → Shared → Prop}
    (h : _root_.PySem.wpAt M A c (attributeBase o name env (eval o env)) (fun ov s₁ => wpAny M A (getMethod ov name pl) (fun fx s₂ => wpAny M A (callWith pos fx.1 fx.2 (backTo pos (starEach args env)) (backToKw pos (keywordEach kws env))) Q E s₂) E s₁) E s)
    (he : eval (.Call (.Attribute o name apos) args kws pos) env = (do
      let ov ← attributeBase o name env (eval o env)
      standAt apos.atName
      let (f, first) ← holding [ov] (getMethod ov name pl)
      callWith pos f first (backTo pos (starEach args env)) (backToKw pos (keywordEach kws env)))) :
    _root_.PySem.wpAt M A c (eval (.Call (.Attribute o name apos) args kws pos) env) Q E s := by
  rw [he]
  refine PySem.wpAt_bind (PySem.ks_wpAt_mono h (fun ov s₁ h₁ => PySem.wpAt_of_wpAny (wpAny_bind (wpAny_standAt (wpAny_bind (wpAny_holding (wpAny_mono h₁ (fun fx s₂ h₂ => ?_) fun _ _ x => x)))))) fun _ _ x => x)
  exact h₂
/-- super().m is a bound method -/
theorem sup_eval {es : List Expr} {kws : List Keyword} {p0 p1 p2 p3 : Pos} {pl : Sem Bool} {Q : Value → Shared → Prop} (T : SupM P K C f cc cd (PySem.W.ksFn name qual params body scope dV kV doc pm an (.ref cd) ct cc) m g) (S : ScopeS N ps scope) (hmg : mg ("super" : Str) = none)
    (hN : N[0]? = some ("self" : Str)) (hself : scope.names.lookup ("self" : Str) = some .local) (hσ : σ[0]? = some (some (.ref a)))
    (I : Inv (cxS CX P w K mg base N qual scope f (.ref cd) cc A outer s0 H0 E) [] σ H s) (hea : H a = some (.ins C dx fs))
    (hcall : ∀ s1 q, Inv (cxS CX P w K mg base N qual scope f (.ref cd) cc A outer s0 H0 E) [(q, PySem.W.methodObj (.ref g) (.ref a))] σ H s1 → base.get? q = none →
      wpAny (model P w) (A.deeper (envS qual scope s0.heap.objs.size f (.ref cd) cc)) (callWith p3 (.ref q) [] (backTo p3 (starEach es (envS qual scope s0.heap.objs.size f (.ref cd) cc))) (backToKw p3 (keywordEach kws (envS qual scope s0.heap.objs.size f (.ref cd) cc)))) Q (cxS CX P w K mg base N qual scope f (.ref cd) cc A outer s0 H0 E).xe s1)
    (hev : eval (.Call (.Attribute (.Call (.Name "super" p0) [] [] p1) m p2) es kws p3) (envS qual scope s0.heap.objs.size f (.ref cd) cc) = (do
      let ov ← attributeBase (.Call (.Name "super" p0) [] [] p1) m (envS qual scope s0.heap.objs.size f (.ref cd) cc) (eval (.Call (.Name "super" p0) [] [] p1) (envS qual scope s0.heap.objs.size f (.ref cd) cc))
      standAt p2.atName
      let (fn, first) ← holding [ov] (getMethod ov m pl)
      callWith p3 fn first (backTo p3 (starEach es (envS qual scope s0.heap.objs.size f (.ref cd) cc))) (backToKw p3 (keywordEach kws (envS qual scope s0.heap.objs.size f (.ref cd) cc))))) :
    _root_.PySem.wpAt (model P w) (A.deeper (envS qual scope s0.heap.objs.size f (.ref cd) cc)) (.func body (envS qual scope s0.heap.objs.size f (.ref cd) cc)) (eval (.Call (.Attribute (.Call (.Name "super" p0) [] [] p1) m p2) es kws p3) (envS qual scope s0.heap.objs.size f (.ref cd) cc))
      Q (cxS CX P w K mg base N qual scope f (.ref cd) cc A outer s0 H0 E).xe s := by
  obtain ⟨oc, od, osl, lkf⟩ := T.fn
  obtain ⟨ar, har, ear⟩ := T.self
  obtain ⟨ccl, cdd, vsC, ccs, file, tf, lkc, hvs, MP⟩ := T.code
  obtain ⟨kcl, kcd, ksl, lkcell⟩ := T.cell
  obtain ⟨cdC, hcl⟩ := T.cls
  obtain ⟨oD, hD, hDt⟩ : ∃ oD, K.lookup C = some oD ∧ oD.data = .cls cdC := by
    unfold PySem.W.clsIn at hcl
    split at hcl
    · rename_i c d cd' sl ho
      cases hcl
      exact ⟨_, ho, rfl⟩
    · cases hcl
  obtain ⟨mb, hblt, hboot⟩ := I.mod.blt
  obtain ⟨mA, O, _⟩ := ins_get I.hok hea
  obtain ⟨odI, J, _⟩ := O.look
  obtain ⟨mm, hns, hlk⟩ := I.loc
  refine wpAt_MethodCallK (pl := pl) ?_ hev
  refine PySem.ks_wpAt_super_base S.sup S.cls T.nm rfl (I.kIn _ _ lkf) rfl har rfl (I.kIn _ _ lkc) rfl hvs MP.file MP.sup ?_
  refine PySem.W.ks_loadName_global S.kind S.sup (Calls.loadGlobal_builtin (by exact I.mod.glob.keeps I.bk) hmg (by exact hblt.keeps I.bk) ((hboot _ (by decide)).trans (show bootBuiltins "super" = some (.type "super") by first | rfl | kernel_rfl)) ⟨rfl, ?_⟩)
  refine wpAny_loadName_free S.kind S.cls (by rfl) ⟨_, I.kIn _ _ lkcell, rfl⟩ ?_
  rw [ear]
  obtain ⟨ua, ra, hm⟩ := hlk 0 "self" (.ref a) hN hσ (.inl hself)
  cases ra
  have hma : mm "self" = some (.ref a) := by
    rcases hm with ⟨_, z⟩ | ⟨z, _⟩
    · exact z
    · have z' : scope.names.lookup ("self" : Str) = some .cell ∨ scope.names.lookup ("self" : Str) = some .free := z
      rw [hself] at z'
      rcases z' with z' | z' <;> cases z'
  refine wpAny_loadName_local S.kind hself hns hma ?_
  obtain ⟨hp, gg, dr, tk, os⟩ := s
  refine PySem.ks_wpAny_isType_cls (I.kIn _ _ hD) hDt ⟨rfl, ?_⟩
  refine PySem.ks_wpAny_call_super (I.kIn _ _ hD) hDt J.at_ J.cls (fun c e => ?_) (PySem.W.looks_mroIn I.kIn T.sub) fun h' eso k => ?_
  · have := J.no
    unfold PySem.W.notCls at this
    rw [e] at this
    exact Bool.noConfusion this
  have I1 : Inv (cxS CX P w K mg base N qual scope f (.ref cd) cc A outer s0 H0 E) [] σ H ⟨h', gg, dr, tk, os⟩ := I.kept (t' := tk) k
  obtain ⟨of, hof, hofc⟩ : ∃ of, K.lookup g = some of ∧ of.cls = .type "function" := by
    have ht' : (K.lookup g).map (·.cls) = some (.type "function") := T.ty
    cases z : K.lookup g with
    | none => rw [z] at ht'; cases ht'
    | some of => rw [z] at ht'; exact ⟨of, rfl, Option.some.inj ht'⟩
  have hm := T.sup
  unfold PySem.W.ks_superIn at hm
  rw [hcl] at hm
  refine PySem.ks_wpAny_getMethod_super eso (PySem.W.looks_opaque I1.kIn T.stat) (l₀ := cdC.mro) (fun A Q E s k q => wpAny_bind ((PySem.W.looks_clsIn I1.kIn hcl) A _ E s k (wpAny_pure q))) rfl I1.kIn hm (I1.kIn _ _ hof) hofc (PySem.W.ks_ne I.kIn J hcl) T.nm ?_
  have I2 : Inv (cxS CX P w K mg base N qual scope f (.ref cd) cc A outer s0 H0 E) [(h'.objs.size, PySem.W.methodObj (.ref g) (.ref a))] σ H ⟨h'.push (PySem.W.methodObj (.ref g) (.ref a)), gg, dr, tk + 1, os⟩ :=
    ClX.pin_new I1 (fun _ _ z => Heap.get?_push_of_some _ z) (Nat.le_refl _) (Heap.get?_push_size _ rfl) (fun v z => nomatch z)
  exact hcall _ _ I2 (ClX.base_none I1 (Nat.le_refl _))
end
section
variable {X : Cx} {CX : CXT} {k n : Nat} {C g q a : Addr} {ps ks : List Str} {sp : Sp} {E : XK} {pos : Pos} {e : Expr} {es : List Expr} {kws : List Keyword} {t tk : TA} {gV : List V → List V → List V} {σ : L2.St} {H : Hp} {s : Shared} {Q : VK}
/-- the bound method called: with values, with nothing, with keywords -/
theorem supcall_pos (I : Inv X [(q, PySem.W.methodObj (.ref g) (.ref a))] σ H s) (hb : X.base.get? q = none) (hf : PySem.W.fnIn X.K g = true) (F : FnR X.prog X.w X.K X.mg X.base CX k g sp) (hr : Room k X.A) (hx : Passes CX X E) (ha : PA X (e :: es) t)
    (h : t σ H fun vs H1 => sp (.ref a :: vs) H1 Q E)
    (hst : starEach (e :: es) X.env = (false, eval e X.env) :: starEach es X.env := by rfl) (hpl : (backTo pos (starEach es X.env)).any (·.1) = false := by rfl) :
    wpAny (model X.prog X.w) X.A (callWith pos (.ref q) [] (backTo pos (starEach (e :: es) X.env)) (backToKw pos (keywordEach [] X.env))) (EP X [] σ Q) X.xe s := by
  refine ClX.callwith_cm I hb hf (thn (ha.run pos _ s σ H _ I h) fun us s3 ⟨vs, H2, I3, rv, q2⟩ => ⟨⟨ClX.pin_at I3, I3.kIn⟩, ?_⟩) hst hpl
  exact ClX.run_cm F hr hx I3 rv q2
theorem supcall_none (I : Inv X [(q, PySem.W.methodObj (.ref g) (.ref a))] σ H s) (hf : PySem.W.fnIn X.K g = true) (F : FnR X.prog X.w X.K X.mg X.base CX k g sp) (hr : Room k X.A) (hx : Passes CX X E)
    (h : sp [.ref a] H Q E) :
    wpAny (model X.prog X.w) X.A (callWith pos (.ref q) [] (backTo pos (starEach [] X.env)) (backToKw pos (keywordEach [] X.env))) (EP X [] σ Q) X.xe s :=
  PySem.W.callWith_M0 (K := X.K) (first := []) ⟨ClX.pin_at I, I.kIn⟩ hf (ClX.run_cm F hr hx I .nil h)
theorem supcall_kw (I : Inv X [(q, PySem.W.methodObj (.ref g) (.ref a))] σ H s) (hf : PySem.W.fnIn X.K g = true) (G : GoodMN X.prog X.w X.K X.mg X.base CX k g 1 ks ps gV sp) (hr : Room k X.A) (hx : Passes CX X E) (hkw : PK X kws tk)
    (h : tk σ H fun zs H1 => zs.length = ks.length ∧ sp (gV [.ref a] zs) H1 Q E)
    (hall : (backToKw pos (keywordEach kws X.env)).all (·.1.isSome) = true := by rfl) (hks : (backToKw pos (keywordEach kws X.env)).filterMap (·.1) = ks := by rfl)
    (hpl : ((backTo pos (starEach [] X.env)).any (·.1) || (backToKw pos (keywordEach kws X.env)).any (·.1.isNone)) = false := by rfl) :
    wpAny (model X.prog X.w) X.A (callWith pos (.ref q) [] (backTo pos (starEach [] X.env)) (backToKw pos (keywordEach kws X.env))) (EP X [] σ Q) X.xe s := by
  obtain ⟨fd, F, gU, hb⟩ := G
  refine PySem.W.callWith_of (P := PySem.W.MethP X.K q g (.ref a)) hpl (PySem.W.keeps_M hf) (evalArgs_kw2_nil hall ?_)
  refine thn (hkw.run pos _ s σ H _ I h) fun ws s3 ⟨zs, H3, I3, rz, l2, q3⟩ => ⟨⟨ClX.pin_at I3, I3.kIn⟩, ?_⟩
  rw [hks, List.append_nil]
  have r2 := hb.rel (us := [.ref a]) (vs := [.ref a]) (.cons rfl .nil) rz
  have z : wpAny (model X.prog X.w) X.A (call (.ref q) [] (ks.zip ws)) (EP X [(q, PySem.W.methodObj (.ref g) (.ref a))] σ Q) X.xe s3 := wpAny_call (PySem.ks_codeAny_call_bound (a := ⟨[], ks.zip ws⟩) (ClX.pin_at I3) (codeAny_mono (F.run X.A X.stack s3 H3 ⟨[.ref a], ks.zip ws⟩ (gU [.ref a] ws) (gV [.ref a] zs) Q E hr I3.env0 (hb.to s3 [.ref a] ws I3.kIn rfl (rz.length.symm.trans l2)) r2 q3) fun r s' hq => by
    cases r with
    | error e => exact hx _ σ H3 s3 e s' I3 hq
    | ok fl =>
      cases fl with
      | ret u => exact I3.after hq
      | next => exact False.elim hq
      | brk => exact False.elim hq
      | cont => exact False.elim hq))
  exact thn z fun _ _ y => ClX.unpinE y
end
section
variable {X : Cx} {c : Code} {e : Expr} {i : Nat} {x : Str} {px pos : Pos} {σ : L2.St} {s : Shared} {R : L2.St → Hp → Prop}
theorem sup_expr (h : _root_.PySem.wpAt (model X.prog X.w) X.A c (eval e X.env) (EP X [] σ fun _ H' => R σ H') X.xe s)
    (hi : interactive X.env = false := by rfl) (hs : swapsWith e none pos.line X.env = pure false := by rfl) :
    _root_.PySem.wpAt (model X.prog X.w) X.A c (exec (.Expr e pos) X.env) (fun fl s' => fl = .next ∧ ∃ σ' H', Inv X [] σ' H' s' ∧ R σ' H') X.xe s :=
  PySem.ks_wpAt_Expr_any (PySem.ks_wpAt_mono h (fun v s1 ⟨y, H1, I1, r1, q1⟩ => ⟨rfl, σ, H1, I1, q1⟩) fun _ _ z => z) hi hs
theorem sup_asg (hN : X.N.Nodup) (hi : X.N[i]? = some x) (hx : X.env.scope.names.lookup x = some .local) (h : _root_.PySem.wpAt (model X.prog X.w) X.A c (eval e X.env) (EP X [] σ fun v H' => R (σ.set i (some v)) H') X.xe s)
    (hs : swapsWith e (some (.Name x px)) pos.line X.env = pure false := by rfl) :
    _root_.PySem.wpAt (model X.prog X.w) X.A c (exec (.Assign [.Name x px] e pos) X.env) (fun fl s' => fl = .next ∧ ∃ σ' H', Inv X [] σ' H' s' ∧ R σ' H') X.xe s :=
  PySem.ks_wpAt_Assign_Name (PySem.ks_wpAt_mono h (fun v s1 ⟨y, H1, I1, r1, q1⟩ => store_ok I1 hN hi (.inl hx) r1 (fun s2 I2 => ⟨rfl, _, H1, I2, q1⟩) (.inr hx)) fun _ _ z => z) hs
end
section
variable {CX : CXT} {P : Program} {w : World} {K : PySem.W.Frag} {mg : Str → Option Value} {base : Heap} {N : List Str} {name qual : Str} {params : Arguments} {st : Stmt} {rest : List Stmt} {scope : Scope} {dV kV doc pm ct : Value} {an : Option Addr} {f cc cd C g : Addr} {ps : List Str} {m : Str} {k : Nat} {sp : Sp}
/-- THE RULE: the first statement, then the rest -/
theorem supfn_ok (T : SupM P K C f cc cd (PySem.W.ksFn name qual params (st :: rest) scope dV kV doc pm an (.ref cd) ct cc) m g) (hcd : PySem.W.codeIn K (.ref cd) qual = true) (S : ScopeS N ps scope)
    (len : ∀ vs H Q E, sp vs H Q E → vs.length = ps.length)
    (hbody : ∀ (A : Around) (outer : List PySem.Env) (s : Shared) (H : Hp) (vs : List V) (Q : VK) (E : XK), Room k (A.deeper (envS qual scope s.heap.objs.size f (.ref cd) cc)) → sp vs H Q E → ∃ (t : TS), PSs (cxS CX P w K mg base N qual scope f (.ref cd) cc A outer s H E) rest t ∧
      ∀ s1, Inv (cxS CX P w K mg base N qual scope f (.ref cd) cc A outer s H E) [] (L2.start N vs) H s1 →
        _root_.PySem.wpAt (model P w) (A.deeper (envS qual scope s.heap.objs.size f (.ref cd) cc)) (.func (st :: rest) (envS qual scope s.heap.objs.size f (.ref cd) cc)) (exec st (envS qual scope s.heap.objs.size f (.ref cd) cc))
          (fun fl s' => fl = .next ∧ ∃ σ' H', Inv (cxS CX P w K mg base N qual scope f (.ref cd) cc A outer s H E) [] σ' H' s' ∧ t { nx := fun _ H' => Q .non H', rt := Q } σ' H') (cxS CX P w K mg base N qual scope f (.ref cd) cc A outer s H E).xe s1) :
    FnOk P w K mg base CX (k + 1) f (PySem.W.ksFn name qual params (st :: rest) scope dV kV doc pm an (.ref cd) ct cc) ps sp := by
  obtain ⟨oc, od, osl, lk⟩ := T.fn
  obtain ⟨kcl, kcd, ksl, lkcell⟩ := T.cell
  refine ⟨len, fun A outer s H args us vs Q E hr e0 hb r hsp => ?_⟩
  have hl := len _ _ _ _ hsp
  have KX : K.In s.heap := e0.mod.kin.keeps fun b o e => (e0.bs b o e).1
  have lim : s.heap.NoLimit := e0.mod.nolimit.keeps fun b o e => (e0.bs b o e).1
  refine PySem.ks_codeAny_call_defAt hr.depth (KX _ _ lk) rfl lim (PySem.W.codeRec_of KX hcd) rfl hb S.nocell (fun ⟨n, v⟩ hy => S.par n (List.of_mem_zip hy).1) (fun h₀ hns kp => ?_) S.co S.gen S.kind
  obtain ⟨t, pr, hst⟩ := hbody A outer s H vs Q E (hr.deeper _) hsp
  have I : Inv (cxS CX P w K mg base N qual scope f (.ref cd) cc A outer s H E) [] (L2.start N vs) H { s with heap := h₀, toks := s.toks + (ps.zip us).length } := inv_startS S hr.hd e0 hl r ⟨_, e0.mod.kin _ _ lkcell, _, rfl⟩ hns kp
  refine PySem.ks_wpAt_execs_cons ?_
  refine PySem.ks_wpAt_mono (hst _ I) (fun fl s' hh => ?_) fun _ _ z => z
  obtain ⟨rfl, σ1, H1, I1, q1⟩ := hh
  refine PySem.wpAt_of_wpAny (wpAny_mono (pr.run [] s' _ H1 _ I1 q1) (fun fl s2 hs => ?_) fun _ _ z => z)
  have fin : ∀ {σ' : L2.St} {H' : Hp} {v : V} {u : Value}, Inv (cxS CX P w K mg base N qual scope f (.ref cd) cc A outer s H E) [] σ' H' s2 → L2.RelV v u → Q v H' → CE outer P w H s Q u s2 :=
    fun {σ' H' v u} J rv q => ⟨v, H', J.os, J.bare, J.base, J.hok, rv, q⟩
  cases fl with
  | ret u =>
    obtain ⟨v, σ', H', J, rv, q⟩ := hs
    exact fin J rv q
  | next =>
    obtain ⟨σ', H', J, q⟩ := hs
    exact fin (v := V.non) (u := Value.none) J rfl q
  | brk =>
    obtain ⟨_, _, _, q⟩ := hs
    exact False.elim q
  | cont =>
    obtain ⟨_, _, _, q⟩ := hs
    exact False.elim q
end
end Bx
-- needs excM clsrules superM
-- imports HandS.HeadNt HandS.HeadHook4 HandS.HeadWalk
/-! the head's facts: names, defs, defs at any address, __init__s that say super(), one more Bool, the empty tables of code objects -/
namespace Bx
open PySem PySem.Spec PyProof.Rows L2
def fnS (K : PySem.W.Frag) (a : Addr) : He.FnW := match K.lookup a with
  | some ⟨_, _, .func fd, _⟩ => some (fd.name, fd.qualname, fd.params, fd.body, fd.scope, fd.globals, fd.closure.map fun q => (q.1, 0), fd.builtins)
  | _ => none
/-- an own exception's __init__ that says super(), or a method m of a plain class whose base bs has m too -/
structure DefS where
  cls : Str
  m : Str
  bs : Str
  qual : Str
  params : Arguments
  body : List Stmt
  scope : Scope
  file : Str
  eb : EB
def DefS.at_ (K : PySem.W.Frag) (d : DefS) : Addr := He.ma K (He.ga K d.cls) d.m
def DefS.val (d : DefS) : He.FnW := some (d.m, d.qual, d.params, .stmts d.body, d.scope, mainGlobals, [("__class__", 0)], builtinsNs)
def fileB (K : PySem.W.Frag) (cd : Value) (file : Str) : Bool := match cd with
  | .ref c => (match K.lookup c with
      | some ⟨_, _, .fields vs, _⟩ => (match vs.toList with | _ :: _ :: .str y _ :: _ => y == file | _ => false)
      | _ => false)
  | _ => false
def cellB (K : PySem.W.Frag) (cl : List (Str × Addr)) (C : Addr) : Bool := match cl with
  | [(_, cc)] => (match K.lookup cc with
      | some ⟨_, _, .cell (some (.ref D)), _⟩ => decide (D = C)
      | _ => false)
  | _ => false
def oexB (eb : EB) (K : PySem.W.Frag) (C : Addr) : Bool := match K.lookup C with
  | some ⟨.type t, _, .cls cd, sl⟩ => decide (t = "type") && (match cd.mro, sl.toList with
    | .ref C' :: bm, [_, _, _, _, some (.builtin n), _] => decide (C' = C) && (decide (n = eb.new) && (!cd.hasDel && (cd.hasDict && PySem.W.excTail eb.mro bm)))
    | _, _ => false)
  | _ => false
theorem oexB_ok {eb : EB} {K : PySem.W.Frag} {C : Addr} (h : oexB eb K C = true) : ∃ nm q N bs bm sn sub ab col dd k0 k1 k2 k3 k5, K.lookup C = some (excClassObj nm q C N bs bm true sn sub ab col dd k0 k1 k2 k3 k5 eb.new) ∧ PySem.W.excTail eb.mro bm = true := by
  unfold oexB at h
  split at h
  · rename_i t dd cd sl ho
    obtain ⟨ht, hh⟩ := He.ba h
    clear h
    obtain rfl := of_decide_eq_true ht
    split at hh
    · rename_i C' bm k0 k1 k2 k3 n k5 hm hs
      obtain ⟨h1, h⟩ := He.ba hh
      obtain ⟨h2, h⟩ := He.ba h
      obtain ⟨h3, h⟩ := He.ba h
      obtain ⟨h4, h5⟩ := He.ba h
      obtain rfl := of_decide_eq_true h1
      obtain rfl := of_decide_eq_true h2
      obtain ⟨nm, bs, mro, ns, qn, hd, sn, sb, ab, col, del⟩ := cd
      dsimp only at hm h3 h4
      subst hm h4
      have h3' : del = false := by cases del <;> first | rfl | cases h3
      subst h3'
      have hsl : sl = #[k0, k1, k2, k3, some (.builtin eb.new), k5] := by
        obtain ⟨l⟩ := sl
        simp only at hs
        rw [hs]
      subst hsl
      exact ⟨nm, qn, ns, bs, bm, sn, sb, ab, col, dd, k0, k1, k2, k3, k5, ho, h5⟩
    · cases hh
  · cases h
def DefS.okX (K : PySem.W.Frag) (d : DefS) : Bool := (oexB d.eb K (He.ga K d.cls) && (He.eqO (PySem.W.findIn K (.ref (He.ga K d.cls)) "__setattr__") (some (some (.builtin "object.__setattr__"))) && (decide (PySem.W.subIn K (.ref (He.ga K d.cls)) (.type "BaseException") = some true) && (decide (PySem.W.typeIn K (.ref (He.ga K d.cls)) = some (.type "type")) && (PySem.W.keepIn K (.ref (He.ga K d.cls)) &&
    (He.eqO (PySem.W.findIn K (.ref (He.ga K d.cls)) "__init__") (some (some (.ref (d.at_ K)))) && (decide (PySem.W.typeIn K (.ref (d.at_ K)) = some (.type "function")) && (xfB K (He.ga K d.cls) && (He.eqO (PySem.W.findIn K (.ref (He.ga K d.cls)) "tag") (some none) &&
    (decide (PySem.W.mroIn K (He.ga K d.cls) (.ref (He.ga K d.cls)) = some true) && (He.eqO (PySem.W.ks_superIn K (He.ga K d.cls) (He.ga K d.cls) "__init__") (some (some (.builtin d.eb.ini))) && (decide (PySem.W.subIn K (.ref (He.ga K d.cls)) (.type d.eb.nm) = some true) && He.eqO (PySem.W.nsIn K cStatics "thirdparty.any") (some none)))))))))))))
/-- the base's method -/
def DefS.up (K : PySem.W.Frag) (d : DefS) : Addr := He.ma K (He.ga K d.bs) d.m
def DefS.okM (K : PySem.W.Frag) (d : DefS) : Bool := (PySem.W.clsIn K (He.ga K d.cls)).isSome && (decide (PySem.W.mroIn K (He.ga K d.cls) (.ref (He.ga K d.cls)) = some true) && (He.eqO (PySem.W.ks_superIn K (He.ga K d.cls) (He.ga K d.cls) d.m) (some (some (.ref (d.up K)))) &&
  (decide (PySem.W.typeIn K (.ref (d.up K)) = some (.type "function")) && (PySem.W.fnIn K (d.up K) && He.eqO (PySem.W.nsIn K cStatics "thirdparty.any") (some none)))))
def DefS.ok (K : PySem.W.Frag) (d : DefS) : Bool := (match K.lookup (d.at_ K) with
  | some ⟨_, _, .func fd, _⟩ => PySem.W.codeIn K fd.code d.qual && (fileB K fd.code d.file && (cellB K fd.closure (He.ga K d.cls) && (decide (fd.defaults = .none) && (d.bs != "" || decide (fd.kwdefaults = .none)))))
  | _ => false) && (if d.bs = "" then d.okX K else d.okM K)
theorem fileB_ok {K : PySem.W.Frag} {cd : Value} {file : Str} (h : fileB K cd file = true) : ∃ (c : Addr) (cl : Value) (cdd : Option Addr) (vs : Array Value) (ccs : Array (Option Value)) (tf : PySem.Tok), cd = .ref c ∧ K.lookup c = some ⟨cl, cdd, .fields vs, ccs⟩ ∧ vs[2]? = some (.str file tf) := by
  unfold fileB at h
  split at h
  · rename_i c
    split at h
    · rename_i cl cdd vs ccs ho
      split at h
      · rename_i a b y t r hv
        obtain rfl : y = file := by simpa using h
        refine ⟨c, cl, cdd, vs, ccs, t, rfl, ho, ?_⟩
        have e : vs.toList[2]? = some (.str y t) := by rw [hv]; rfl
        simpa using e
      · cases h
    · cases h
  · cases h
theorem cellB_ok {K : PySem.W.Frag} {cl : List (Str × Addr)} {C : Addr} (h : cellB K cl C = true) : ∃ (x : Str) (cc : Addr) (kc : Value) (kd : Option Addr) (ks : Array (Option Value)), cl = [(x, cc)] ∧ K.lookup cc = some ⟨kc, kd, .cell (some (.ref C)), ks⟩ := by
  unfold cellB at h
  split at h
  · rename_i x cc
    split at h
    · rename_i kc kd D ks ho
      obtain rfl := of_decide_eq_true h
      exact ⟨x, cc, kc, kd, ks, rfl, ho⟩
    · cases h
  · cases h
/-- the function object -/
theorem DefS.fd {K : PySem.W.Frag} {d : DefS} (e : fnS K (d.at_ K) = d.val) (c : d.ok K = true) :
    ∃ (kV doc pm ct : Value) (an : Option Addr) (cd cc : Addr) (oc : Value) (od : Option Addr) (osl : Array (Option Value)) (ccl : Value) (cdd : Option Addr) (vs : Array Value) (ccs : Array (Option Value)) (tf : PySem.Tok) (kc : Value) (kd : Option Addr) (ks : Array (Option Value)),
      K.lookup (d.at_ K) = some ⟨oc, od, .func (PySem.W.ksFn d.m d.qual d.params d.body d.scope .none kV doc pm an (.ref cd) ct cc), osl⟩ ∧ PySem.W.codeIn K (.ref cd) d.qual = true ∧ K.lookup cd = some ⟨ccl, cdd, .fields vs, ccs⟩ ∧ vs[2]? = some (.str d.file tf) ∧ K.lookup cc = some ⟨kc, kd, .cell (some (.ref (He.ga K d.cls))), ks⟩ ∧ (d.bs = "" → kV = .none) ∧ (if d.bs = "" then d.okX K else d.okM K) = true := by
  unfold DefS.ok at c
  obtain ⟨c0, c1⟩ := He.ba c
  unfold fnS at e
  cases q : K.lookup (d.at_ K) with
  | none =>
    rw [q] at c0
    cases c0
  | some o =>
    obtain ⟨oc, od, dt, osl⟩ := o
    rw [q] at c0 e
    cases dt with
    | func fd =>
      obtain ⟨n1, n2, n3, n4, n5, n6, n7, n8, n9, n10, n11, n12, n13, n14, n15⟩ := fd
      have e2 : (some (n1, n2, n3, n4, n5, n6, n7.map (fun q => (q.1, 0)), n15) : He.FnW) = some (d.m, d.qual, d.params, FuncBody.stmts d.body, d.scope, mainGlobals, [(("__class__" : Str), 0)], builtinsNs) := e
      simp only [Option.some.injEq, Prod.mk.injEq] at e2
      obtain ⟨h1, h2, h3, h4, h5, h6, h7, h8⟩ := e2
      subst h1 h2 h3 h4 h5 h6 h8
      have c3' : (PySem.W.codeIn K n13 d.qual && (fileB K n13 d.file && (cellB K n7 (He.ga K d.cls) && (decide (n8 = .none) && (d.bs != "" || decide (n9 = .none)))))) = true := c0
      obtain ⟨k1, k⟩ := He.ba c3'
      obtain ⟨k2, k⟩ := He.ba k
      obtain ⟨k3, k⟩ := He.ba k
      obtain ⟨k4, k5⟩ := He.ba k
      obtain rfl := of_decide_eq_true k4
      obtain ⟨cd, ccl, cdd, vs, ccs, tf, rfl, lc, hv⟩ := fileB_ok k2
      obtain ⟨x, cc, kc, kd, ks, rfl, lcc⟩ := cellB_ok k3
      have hx : x = "__class__" := by
        have := List.cons.inj h7
        exact (Prod.mk.inj this.1).1
      subst hx
      refine ⟨n9, n10, n11, n14, n12, cd, cc, oc, od, osl, ccl, cdd, vs, ccs, tf, kc, kd, ks, rfl, k1, lc, hv, lcc, fun hb => ?_, c1⟩
      rw [hb] at k5
      exact of_decide_eq_true k5
    | _ => cases c0
/-- what the head tells of such a class -/
theorem DefS.get {P : Program} {K : PySem.W.Frag} {d : DefS} (MP : MainP P d.file) (hs : ∃ ar, (d.params.posonlyargs ++ d.params.args).head? = some ar ∧ ar.arg = "self") (hb : d.bs = "") (hm : d.m = "__init__") (e : fnS K (d.at_ K) = d.val) (c : d.ok K = true) :
    ∃ (kV doc pm ct : Value) (an : Option Addr) (cd cc : Addr), SupF d.eb P K (He.ga K d.cls) (d.at_ K) cc cd (PySem.W.ksFn "__init__" d.qual d.params d.body d.scope .none .none doc pm an (.ref cd) ct cc) ∧ PySem.W.codeIn K (.ref cd) d.qual = true ∧ ExcK d.eb K (He.ga K d.cls) (d.at_ K) := by
  obtain ⟨kV, doc, pm, ct, an, cd, cc, oc, od, osl, ccl, cdd, vs, ccs, tf, kc, kd, ks, q, k1, lc, hv, lcc, hk, c⟩ := DefS.fd e c
  obtain rfl := hk hb
  rw [if_pos hb] at c
  rw [hm] at q
  unfold DefS.okX at c
  obtain ⟨c1, c⟩ := He.ba c
  obtain ⟨c2, c⟩ := He.ba c
  obtain ⟨c3, c⟩ := He.ba c
  obtain ⟨c4, c⟩ := He.ba c
  obtain ⟨c5, c⟩ := He.ba c
  obtain ⟨c6, c⟩ := He.ba c
  obtain ⟨c7, c⟩ := He.ba c
  obtain ⟨c8, c⟩ := He.ba c
  obtain ⟨c9, c⟩ := He.ba c
  obtain ⟨c10, c⟩ := He.ba c
  obtain ⟨c11, c⟩ := He.ba c
  obtain ⟨c12, c13⟩ := He.ba c
  have OX : OexG d.eb K (He.ga K d.cls) := ⟨oexB_ok c1, He.eqO_ok c2, of_decide_eq_true c3, of_decide_eq_true c4, c5⟩
  have EX : ExcK d.eb K (He.ga K d.cls) (d.at_ K) := ⟨OX, He.eqO_ok c6, of_decide_eq_true c7, xfB_ok c8, He.eqO_ok c9⟩
  exact ⟨.none, doc, pm, ct, an, cd, cc, ⟨OX, ⟨oc, od, osl, q⟩, hs, ⟨ccl, cdd, vs, ccs, d.file, tf, lc, hv, MP⟩, ⟨kc, kd, ks, lcc⟩, of_decide_eq_true c10, He.eqO_ok c11, of_decide_eq_true c12, He.eqO_ok c13⟩, k1, EX⟩
/-- .. of such a method -/
theorem DefS.getM {P : Program} {K : PySem.W.Frag} {d : DefS} (MP : MainP P d.file) (hs : ∃ ar, (d.params.posonlyargs ++ d.params.args).head? = some ar ∧ ar.arg = "self") (hb : d.bs ≠ "") (hn : (d.m == ("__class__" : Str)) = false) (e : fnS K (d.at_ K) = d.val) (c : d.ok K = true) :
    ∃ (kV doc pm ct : Value) (an : Option Addr) (cd cc : Addr), SupM P K (He.ga K d.cls) (d.at_ K) cc cd (PySem.W.ksFn d.m d.qual d.params d.body d.scope .none kV doc pm an (.ref cd) ct cc) d.m (d.up K) ∧ PySem.W.codeIn K (.ref cd) d.qual = true := by
  obtain ⟨kV, doc, pm, ct, an, cd, cc, oc, od, osl, ccl, cdd, vs, ccs, tf, kc, kd, ks, q, k1, lc, hv, lcc, hk, c⟩ := DefS.fd e c
  rw [if_neg hb] at c
  unfold DefS.okM at c
  obtain ⟨c1, c⟩ := He.ba c
  obtain ⟨c2, c⟩ := He.ba c
  obtain ⟨c3, c⟩ := He.ba c
  obtain ⟨c4, c⟩ := He.ba c
  obtain ⟨c5, c6⟩ := He.ba c
  exact ⟨kV, doc, pm, ct, an, cd, cc, ⟨⟨oc, od, osl, q⟩, hs, ⟨ccl, cdd, vs, ccs, d.file, tf, lc, hv, MP⟩, ⟨kc, kd, ks, lcc⟩, Option.isSome_iff_exists.mp c1, of_decide_eq_true c2, He.eqO_ok c3, of_decide_eq_true c4, c5, He.eqO_ok c6, hn⟩, k1⟩
def cellsOf (g : Addr → Option Obj) (as : List Addr) : List Addr := as.flatMap fun a => match g a with
  | some ⟨_, _, .func fd, _⟩ => fd.closure.map (·.2)
  | _ => []
def withCells (g : Addr → Option Obj) (as : List Addr) : List Addr := as ++ cellsOf g as
def asW (g : Addr → Option Obj) (n : Nat) : List Addr := withCells g (He5.asA g n)
abbrev AlW : Type := He.AlD × He.AlD × He.AlD × Bool
def obsWK (fa : List He.Fa) (fn : List He.DefD) (fna : List He5.DefA) (fns : List DefS) (tf : List He.Defn) (ex : PySem.W.Frag → Bool) (g : Addr → Option Obj) (K : PySem.W.Frag) : AlW :=
  (He.obsD fa fn K, He5.obsA [] fna K, (fns.all fun d => d.ok K, fns.map fun d => fnS K (d.at_ K)), ex K && He.tabsB g tf K)
def obsW (n : Nat) (fa : List He.Fa) (fn : List He.DefD) (fna : List He5.DefA) (fns : List DefS) (tf : List He.Defn) (ex : PySem.W.Frag → Bool) (g : Addr → Option Obj) : AlW := obsWK fa fn fna fns tf ex g (He.frT g (asW g n))
def valW (fn : List He.DefD) (fna : List He5.DefA) (fns : List DefS) : AlW := (He.valD fn, He5.valA fna, (true, fns.map DefS.val), true)
def SaysS (fns : List DefS) (K : PySem.W.Frag) : Prop := ((fns.all fun d => d.ok K, fns.map fun d => fnS K (d.at_ K)) : He.AlD) = (true, fns.map DefS.val)
theorem SaysS.def_ {fns : List DefS} {K : PySem.W.Frag} (c : SaysS fns K) (i : Nat) {d : DefS} (h : fns[i]? = some d := by rfl) : fnS K (d.at_ K) = d.val ∧ d.ok K = true := by
  have c1 : (fns.all fun d => d.ok K) = true := congrArg (fun z : He.AlD => z.1) c
  have c2 : (fns.map fun d => fnS K (d.at_ K)) = fns.map DefS.val := congrArg (fun z : He.AlD => z.2) c
  have c3 : (fns.map fun d => fnS K (d.at_ K))[i]? = (fns.map DefS.val)[i]? := by rw [c2]
  rw [List.getElem?_map, List.getElem?_map, h] at c3
  exact ⟨Option.some.inj c3, List.all_eq_true.mp c1 d (List.mem_of_getElem? h)⟩
structure SaysW (fa : List He.Fa) (fn : List He.DefD) (fna : List He5.DefA) (fns : List DefS) (tf : List He.Defn) (ex : PySem.W.Frag → Bool) (h : Heap) (K : PySem.W.Frag) : Prop where
  d : He.SaysD fa fn K
  a : He5.SaysA [] fna K
  s : SaysS fns K
  more : ex K = true
  hd : ∀ p ∈ tf, PySem.W.codeHdIn K (He.cT K p).1 (He.cT K p).2 = true
  out : ∀ p ∈ tf, K.lookup (He.cT K p).2 = none
  empty : ∀ p ∈ tf, h.get? (He.cT K p).2 = some { cls := .none, data := .fields #[] }
theorem saysW_of {n : Nat} {fa : List He.Fa} {fn : List He.DefD} {fna : List He5.DefA} {fns : List DefS} {tf : List He.Defn} {ex : PySem.W.Frag → Bool} {h : Heap} (e : obsW n fa fn fna fns tf ex h.get? = valW fn fna fns) : SaysW fa fn fna fns tf ex h (He.frT h.get? (asW h.get? n)) := by
  unfold obsW at e
  generalize hK : He.frT h.get? (asW h.get? n) = K at e ⊢
  have e1 : He.obsD fa fn K = He.valD fn := congrArg (fun z : AlW => z.1) e
  have e2 : He5.obsA [] fna K = He5.valA fna := congrArg (fun z : AlW => z.2.1) e
  have e3 := congrArg (fun z : AlW => z.2.2.1) e
  have e4 : (ex K && He.tabsB h.get? tf K) = true := congrArg (fun z : AlW => z.2.2.2) e
  obtain ⟨h1, h2⟩ := He.ba e4
  have key : ∀ p ∈ tf, PySem.W.codeHdIn K (He.cT K p).1 (He.cT K p).2 = true ∧ ∃ o, h.get? (He.cT K p).2 = some o ∧ He.emptyTab o = true := fun p hp => by
    obtain ⟨h3, h4⟩ := He.ba (List.all_eq_true.mp h2 p hp)
    refine ⟨h3, ?_⟩
    cases q : h.get? (He.cT K p).2 with
    | none => rw [q] at h4; cases h4
    | some o => rw [q] at h4; exact ⟨o, rfl, h4⟩
  refine ⟨e1, e2, e3, h1, fun p hp => (key p hp).1, fun p hp => ?_, fun p hp => ?_⟩
  · obtain ⟨_, o, q, z⟩ := key p hp
    rw [← hK] at q ⊢
    exact He.frT_none q z
  · obtain ⟨_, o, q, z⟩ := key p hp
    rw [q, He.emptyTab_eq z]
def hookW (n : Nat) (fa : List He.Fa) (fn : List He.DefD) (fna : List He5.DefA) (fns : List DefS) (tf : List He.Defn) (ex : PySem.W.Frag → Bool) : PySem.W.Hook where
  α := AlW
  obs := fun s => obsW n fa fn fna fns tf ex s.heap.get?
  val := fun _ => valW fn fna fns
  says := fun _ h => ∃ K : PySem.W.Frag, K.In h ∧ SaysW fa fn fna fns tf ex h K
  of := fun _ _ e => ⟨_, He.frT_in, saysW_of e⟩
  keeps := fun _ _ _ ⟨K, hK, c⟩ k => ⟨K, PySem.W.Frag.In.keeps hK k, ⟨c.d, c.a, c.s, c.more, c.hd, c.out, fun p hp => k _ _ (c.empty p hp)⟩⟩
theorem obsW_eq {n : Nat} {fa : List He.Fa} {fn : List He.DefD} {fna : List He5.DefA} {fns : List DefS} {tf : List He.Defn} {ex : PySem.W.Frag → Bool} {g : Addr → Option Obj} {s : Shared} (h : ∀ a, g a = s.heap.get? a) : obsW n fa fn fna fns tf ex g = (hookW n fa fn fna fns tf ex).obs s := by
  have e : g = s.heap.get? := funext h
  rw [e] <;> rfl
/-- the end of a law with lambdas -/
theorem closingW {fal : List He.Fa} {fnl : List He.DefD} {fna : List He5.DefA} {fns : List DefS} {xf : PySem.W.Frag → Bool} {l : PySem.W.OpenLaw} {w : World} {K : PySem.W.Frag} {h : Heap} {mg : Str → Option Value} {fa : Addr} {k : Nat} {sp : PySem.W.Frag → Sp} {pa : Arguments} {bd : List Stmt} {sc : Scope}
    (KX : K.In h) (G : h.Ns mainGlobals mg) (hmg : mg ("law" : Str) = some (.ref fa)) (c : SaysW fal fnl fna fns [("law", none)] xf h K) (gl : Env fal fnl fna xf K mg → mg ("law" : Str) = some (.ref (He.ga K "law")))
    (D : ∃ fd, FunD K "law" "law" pa bd sc [] [] (He.ga K "law") fd)
    (F : ∀ (base : Heap) (fd : FuncData), Env fal fnl fna xf K mg → SaysS fns K → LamX.TabB base mg (He.cT K ("law", none)).1 (He.cT K ("law", none)).2 → FunD K "law" "law" pa bd sc [] [] (He.ga K "law") fd → FnOk l.prog w K mg base CX0 k (He.ga K "law") fd ["script"] (sp K))
    (b : ∀ {fd : FuncData}, FunD K "law" "law" pa bd sc [] [] (He.ga K "law") fd → ∀ (s : Shared) (v : Value), BindsTo s fd ⟨[v], []⟩ [("script", v)])
    (hsp : ∀ (H : Hp) (a : Addr) (ns : List Int), ns.length ≤ 63 → H (He.cT K ("law", none)).2 = some (.tbl #[]) → SqL K H a (ns.map V.int) → sp K [.ref a] H (fun v _ => v = .bl true) fun _ _ _ => False) :
    LamX.LawAtS l w K CX0 k 63 "script" mg fa h := by
  have E : Env fal fnl fna xf K mg := ⟨⟨h, KX, G⟩, c.d, c.a, c.more⟩
  obtain ⟨fd, hD⟩ := D
  have e := (gl E).symm.trans hmg
  cases e
  have m1 : (("law", none) : He.Defn) ∈ ([("law", none)] : List He.Defn) := List.mem_singleton.mpr rfl
  have on : ∀ {p : Addr × Addr}, p ∈ [He.cT K ("law", none)] → p = He.cT K ("law", none) := fun hp => List.mem_singleton.mp hp
  refine ⟨fd, [He.cT K ("law", none)], sp K, fun p hp => ?_, fun p hp => ?_, fun p hp => ?_, b hD, fun H a ns hl _ hT hS => hsp H a ns hl (hT _ (List.mem_singleton.mpr rfl)) hS, fun base _ _ hTB => F base fd E c.s (hTB _ (List.mem_singleton.mpr rfl)) hD⟩
  · rw [on hp]; exact c.empty _ m1
  · rw [on hp]; exact c.out _ m1
  · rw [on hp]; exact PySem.W.codeHd_of_K KX (c.hd _ m1)
/-- a def whose code object is told: for what makes defs of its own -/
theorem _root_.L2.FunD.okC {P : Program} {w : World} {K : PySem.W.Frag} {mg : Str → Option Value} {base : Heap} {x : Str} {params : Arguments} {body : List Stmt} {scope : Scope} {dvs : List V} {kws : List (Str × V)} {fd : FuncData} {CX : CXT} {N ps : List Str} {k : Nat} {sp : Sp} (F : FunD K x x params body scope dvs kws (He.ga K x) fd) (S : FnScope N ps scope) (len : ∀ vs H Q E, sp vs H Q E → vs.length = ps.length)
    (hbody : ∀ (A : Around) (outer : List PySem.Env) (s : Shared) (H : Hp) (vs : List V) (Q : VK) (E : XK), Room k (A.deeper (envOfC x scope s.heap.objs.size (He.ga K x) (.ref (He.cT K (x, none)).1))) → sp vs H Q E →
      ∃ t, PSs (cxOf CX P w K mg base N x scope (He.ga K x) (.ref (He.cT K (x, none)).1) A outer s H E) body t ∧ t { nx := fun _ H' => Q .non H', rt := Q } (L2.start N vs) H) : FnOk P w K mg base CX (k + 1) (He.ga K x) fd ps sp := by
  obtain ⟨oc, od, dV, kV, doc, pm, an, cdv, ct, osl, rfl, lk, hcd, _, _⟩ := F.ex
  obtain ⟨c, rfl⟩ := He.codeIn_ref hcd
  have e : He.codeOf K (x, none) = c := He.codeOf_eq (p := (x, none)) (by exact lk) rfl
  have e2 : (He.cT K (x, none)).1 = c := e
  rw [e2] at hbody
  exact fn_of lk hcd S len fun A outer s H vs Q E hr hsp => hbody A outer s H vs Q E hr hsp
end Bx
-- needs hookW
/-! the head's facts over a list of addresses that is told (the kernel need not look for it) -/
namespace Bx
open PySem PySem.Spec PyProof.Rows L2
def obsL (as : List Addr) (fa : List He.Fa) (fn : List He.DefD) (fna : List He5.DefA) (fns : List DefS) (tf : List He.Defn) (ex : PySem.W.Frag → Bool) (g : Addr → Option Obj) : AlW := obsWK fa fn fna fns tf ex g (He.frT g as)
theorem saysL_of {as : List Addr} {fa : List He.Fa} {fn : List He.DefD} {fna : List He5.DefA} {fns : List DefS} {tf : List He.Defn} {ex : PySem.W.Frag → Bool} {h : Heap} (e : obsL as fa fn fna fns tf ex h.get? = valW fn fna fns) : SaysW fa fn fna fns tf ex h (He.frT h.get? as) := by
  unfold obsL at e
  generalize hK : He.frT h.get? as = K at e ⊢
  have e1 : He.obsD fa fn K = He.valD fn := congrArg (fun z : AlW => z.1) e
  have e2 : He5.obsA [] fna K = He5.valA fna := congrArg (fun z : AlW => z.2.1) e
  have e3 := congrArg (fun z : AlW => z.2.2.1) e
  have e4 : (ex K && He.tabsB h.get? tf K) = true := congrArg (fun z : AlW => z.2.2.2) e
  obtain ⟨h1, h2⟩ := He.ba e4
  have key : ∀ p ∈ tf, PySem.W.codeHdIn K (He.cT K p).1 (He.cT K p).2 = true ∧ ∃ o, h.get? (He.cT K p).2 = some o ∧ He.emptyTab o = true := fun p hp => by
    obtain ⟨h3, h4⟩ := He.ba (List.all_eq_true.mp h2 p hp)
    refine ⟨h3, ?_⟩
    cases q : h.get? (He.cT K p).2 with
    | none => rw [q] at h4; cases h4
    | some o => rw [q] at h4; exact ⟨o, rfl, h4⟩
  refine ⟨e1, e2, e3, h1, fun p hp => (key p hp).1, fun p hp => ?_, fun p hp => ?_⟩
  · obtain ⟨_, o, q, z⟩ := key p hp
    rw [← hK] at q ⊢
    exact He.frT_none q z
  · obtain ⟨_, o, q, z⟩ := key p hp
    rw [q, He.emptyTab_eq z]
def hookL (as : List Addr) (fa : List He.Fa) (fn : List He.DefD) (fna : List He5.DefA) (fns : List DefS) (tf : List He.Defn) (ex : PySem.W.Frag → Bool) : PySem.W.Hook where
  α := AlW
  obs := fun s => obsL as fa fn fna fns tf ex s.heap.get?
  val := fun _ => valW fn fna fns
  says := fun _ h => ∃ K : PySem.W.Frag, K.In h ∧ SaysW fa fn fna fns tf ex h K
  of := fun _ _ e => ⟨_, He.frT_in, saysL_of e⟩
  keeps := fun _ _ _ ⟨K, hK, c⟩ k => ⟨K, PySem.W.Frag.In.keeps hK k, ⟨c.d, c.a, c.s, c.more, c.hd, c.out, fun p hp => k _ _ (c.empty p hp)⟩⟩
theorem obsL_eq {as : List Addr} {fa : List He.Fa} {fn : List He.DefD} {fna : List He5.DefA} {fns : List DefS} {tf : List He.Defn} {ex : PySem.W.Frag → Bool} {g : Addr → Option Obj} {s : Shared} (h : ∀ a, g a = s.heap.get? a) : obsL as fa fn fna fns tf ex g = (hookL as fa fn fna fns tf ex).obs s := by
  have e : g = s.heap.get? := funext h
  rw [e] <;> rfl
end Bx
-- needs lists
/-! data of any depth in a heap that grows -/
namespace Bx
open PySem PySem.Spec PyProof.Rows L2
mutual
theorem Dp.same {K : PySem.W.Frag} {H H' : Hp} (e : Same H H') : ∀ {d : PyData} {v : V}, Dp K H v d → Dp K H' v d
  | .none, _, h => by cases h; exact .non
  | .bool _, _, h => by cases h; exact .bl _
  | .int _, _, h => by cases h; exact .int _
  | .str _, _, h => by cases h; exact .str _
  | .list _, _, h => by
    cases h with
    | lst hs ha => exact .lst (e.seq hs) (Dp.sameAll e ha)
  | .tuple _, _, h => by
    cases h with
    | tup hs ha => exact .tup (seqT e hs) (Dp.sameAll e ha)
  | .dict _, _, h => by cases h
theorem Dp.sameAll {K : PySem.W.Frag} {H H' : Hp} (e : Same H H') : ∀ {ds : List PyData} {vs : List V}, DpAll K H vs ds → DpAll K H' vs ds
  | [], _, h => by cases h; exact .nil
  | _ :: _, _, h => by
    cases h with
    | cons h1 h2 => exact .cons (Dp.same e h1) (Dp.sameAll e h2)
end
theorem DpAll.length {K : PySem.W.Frag} {H : Hp} : ∀ {ds : List PyData} {vs : List V}, DpAll K H vs ds → vs.length = ds.length
  | [], _, h => by cases h; rfl
  | _ :: _, _, h => by
    cases h with
    | cons h1 h2 => exact congrArg Nat.succ (DpAll.length h2)
theorem DpAll.get {K : PySem.W.Frag} {H : Hp} : ∀ {ds : List PyData} {vs : List V} {i : Nat} {v : V}, DpAll K H vs ds → vs[i]? = some v → ∃ d, ds[i]? = some d ∧ Dp K H v d
  | [], _, _, _, h, e => by cases h; cases e
  | _ :: _, _, 0, _, h, e => by
    cases h with
    | cons h1 h2 =>
      cases e
      exact ⟨_, rfl, h1⟩
  | _ :: _, _, i + 1, _, h, e => by
    cases h with
    | cons h1 h2 =>
      obtain ⟨d, q1, q2⟩ := DpAll.get (i := i) h2 (by simpa using e)
      exact ⟨d, by simpa using q1, q2⟩
theorem DpAll.append {K : PySem.W.Frag} {H : Hp} : ∀ {ds es : List PyData} {vs us : List V}, DpAll K H vs ds → DpAll K H us es → DpAll K H (vs ++ us) (ds ++ es)
  | [], _, _, _, h, g => by cases h; exact g
  | _ :: _, _, _, _, h, g => by
    cases h with
    | cons h1 h2 => exact .cons h1 (DpAll.append h2 g)
theorem DpAll.one {K : PySem.W.Frag} {H : Hp} {d : PyData} {v : V} (h : Dp K H v d) : DpAll K H [v] [d] := .cons h .nil
/-- two things of one tuple -/
theorem Dp.pair {K : PySem.W.Frag} {H : Hp} {v : V} {d e : PyData} (h : Dp K H v (.tuple [d, e])) : ∃ a x y, v = .ref a ∧ SqT K H a [x, y] ∧ Dp K H x d ∧ Dp K H y e := by
  cases h with
  | @tup a xs _ hs ha =>
    cases ha with
    | cons h1 h2 =>
      cases h2 with
      | cons h3 h4 =>
        cases h4
        exact ⟨_, _, _, rfl, hs, h1, h3⟩
theorem Dp.lst' {K : PySem.W.Frag} {H : Hp} {v : V} {ds : List PyData} (h : Dp K H v (.list ds)) : ∃ a xs, v = .ref a ∧ SqL K H a xs ∧ DpAll K H xs ds := by
  cases h with
  | lst hs ha => exact ⟨_, _, rfl, hs, ha⟩
theorem Dp.int' {K : PySem.W.Frag} {H : Hp} {v : V} {i : Int} (h : Dp K H v (.int i)) : v = .int i := by cases h; rfl
theorem Dp.str' {K : PySem.W.Frag} {H : Hp} {v : V} {x : Str} (h : Dp K H v (.str x)) : v = .str x := by cases h; rfl
theorem Dp.bl' {K : PySem.W.Frag} {H : Hp} {v : V} {x : Bool} (h : Dp K H v (.bool x)) : v = .bl x := by cases h; rfl
theorem Dp.non' {K : PySem.W.Frag} {H : Hp} {v : V} (h : Dp K H v .none) : v = .non := by cases h; rfl
end Bx
namespace Bx
open PySem PySem.Spec PyProof.Rows L2
/-- all that is no list is as it was -/
def SameT (H H' : Hp) : Prop := ∀ a o, H a = some o → (∀ ys, o ≠ .lst ys) → H' a = some o
theorem SameT.refl (H : Hp) : SameT H H := fun _ _ h _ => h
theorem SameT.trans {H H1 H2 : Hp} (x : SameT H H1) (y : SameT H1 H2) : SameT H H2 := fun a o h n => y a o (x a o h n) n
theorem SameT.of {H H' : Hp} (e : Same H H') : SameT H H' := fun a o h _ => e a o h
theorem SameT.put {H : Hp} {a : Addr} {xs : List V} {o : HO} (h : H a = some (.lst xs)) : SameT H (L2.upd H a o) := fun b u q n => by
  have nb : b ≠ a := fun z => by
    rw [z, h] at q
    exact n _ (Option.some.inj q).symm
  rw [upd_ne nb]
  exact q
theorem SameT.new {H : Hp} {p : Addr} {o : HO} (h : H p = none) : SameT H (L2.upd H p o) := .of (same_new h)
theorem SameT.seqT {K : PySem.W.Frag} {H H' : Hp} {a : Addr} {xs : List V} (e : SameT H H') (h : SqT K H a xs) : SqT K H' a xs := by
  rcases h with (h | ⟨o, h⟩) | h
  · exact .inl (.inl (e _ _ h fun _ z => by cases z))
  · exact .inl (.inr ⟨o, e _ _ h fun _ z => by cases z⟩)
  · exact .inr h
mutual
/-- no list within -/
def noL : PyData → Bool
  | .none => true
  | .bool _ => true
  | .int _ => true
  | .str _ => true
  | .list _ => false
  | .tuple ds => noLs ds
  | .dict _ => false
def noLs : List PyData → Bool
  | [] => true
  | d :: ds => noL d && noLs ds
end
mutual
theorem Dp.sameT {K : PySem.W.Frag} {H H' : Hp} (e : SameT H H') : ∀ {d : PyData} {v : V}, noL d = true → Dp K H v d → Dp K H' v d
  | .none, _, _, h => by cases h; exact .non
  | .bool _, _, _, h => by cases h; exact .bl _
  | .int _, _, _, h => by cases h; exact .int _
  | .str _, _, _, h => by cases h; exact .str _
  | .list _, _, n, _ => by cases n
  | .tuple _, _, n, h => by
    cases h with
    | tup hs ha => exact .tup (e.seqT hs) (Dp.sameTs e (by rw [noL] at n; exact n) ha)
  | .dict _, _, _, h => by cases h
theorem Dp.sameTs {K : PySem.W.Frag} {H H' : Hp} (e : SameT H H') : ∀ {ds : List PyData} {vs : List V}, noLs ds = true → DpAll K H vs ds → DpAll K H' vs ds
  | [], _, _, h => by cases h; exact .nil
  | _ :: _, _, n, h => by
    cases h with
    | cons h1 h2 =>
      rw [noLs, Bool.and_eq_true] at n
      exact .cons (Dp.sameT e n.1 h1) (Dp.sameTs e n.2 h2)
end
theorem noLs_map {α : Type} {f : α → PyData} (h : ∀ x, noL (f x) = true) : ∀ l : List α, noLs (l.map f) = true
  | [] => rfl
  | x :: l => by rw [List.map_cons, noLs, h x, noLs_map h l]; rfl
end Bx
namespace Bx
open PySem PySem.Spec PyProof.Rows L2
mutual
/-- no list or tuple has more than 90000 items -/
def smallD : PyData → Bool
  | .list ds => decide (ds.length ≤ 90000) && smallDs ds
  | .tuple ds => decide (ds.length ≤ 90000) && smallDs ds
  | _ => true
def smallDs : List PyData → Bool
  | [] => true
  | d :: ds => smallD d && smallDs ds
end
theorem smallDs_get : ∀ {ds : List PyData} {i : Nat} {d : PyData}, smallDs ds = true → ds[i]? = some d → smallD d = true
  | [], _, _, _, h => by cases h
  | _ :: _, 0, _, s, h => by
    cases h
    rw [smallDs, Bool.and_eq_true] at s
    exact s.1
  | _ :: ds, i + 1, _, s, h => by
    rw [smallDs, Bool.and_eq_true] at s
    exact smallDs_get (ds := ds) (i := i) s.2 (by simpa using h)
theorem small_ofL {ds : List PyData} (h : smallD (.list ds) = true) : ds.length ≤ 90000 ∧ ∀ {i : Nat} {d : PyData}, ds[i]? = some d → smallD d = true := by
  rw [smallD, Bool.and_eq_true] at h
  exact ⟨of_decide_eq_true h.1, smallDs_get h.2⟩
theorem small_ofT {ds : List PyData} (h : smallD (.tuple ds) = true) : ds.length ≤ 90000 ∧ ∀ {i : Nat} {d : PyData}, ds[i]? = some d → smallD d = true := by
  rw [smallD, Bool.and_eq_true] at h
  exact ⟨of_decide_eq_true h.1, smallDs_get h.2⟩
theorem smallDs_map {α : Type} {f : α → PyData} (h : ∀ x, smallD (f x) = true) : ∀ l : List α, smallDs (l.map f) = true
  | [] => rfl
  | x :: l => by rw [List.map_cons, smallDs, h x, smallDs_map h l]; rfl
theorem smallL {ds : List PyData} (h : ds.length ≤ 90000) (h2 : smallDs ds = true) : smallD (.list ds) = true := by rw [smallD, h2, decide_eq_true h]; rfl
end Bx
namespace Bx
open PySem PySem.Spec PyProof.Rows L2
theorem depthAll_map {α : Type} {f : α → PyData} {n : Nat} (h : ∀ x, (f x).depth ≤ n) : ∀ l : List α, PyData.depthAll (l.map f) ≤ n
  | [] => Nat.zero_le _
  | x :: l => by
    rw [List.map_cons, PyData.depthAll]
    exact Nat.max_le.mpr ⟨h x, depthAll_map h l⟩
end Bx
-- needs deep
/-! pairs of numbers, their runs, their letters -/
namespace Bx
open PySem PySem.Spec PyProof.Rows L2
/-- a pair with numbers from 0 on, not both 0, below 2 ^ 4000 -/
def okP (x y : Nat) : Prop := ¬ (x = 0 ∧ y = 0) ∧ x < 2 ^ 4000 ∧ y < 2 ^ 4000
def PairAt (K : PySem.W.Frag) (H : Hp) (v : V) (x y : Nat) : Prop := ∃ a, v = .ref a ∧ SqT K H a [.int (x : Int), .int (y : Int)]
theorem PairAt.same {K : PySem.W.Frag} {H H' : Hp} {v : V} {x y : Nat} (h : PairAt K H v x y) (e : Same H H') : PairAt K H' v x y := by
  obtain ⟨a, e1, h⟩ := h
  exact ⟨a, e1, seqT e h⟩
theorem at2_0 (a b : V) : atI [a, b] 0 = some a := rfl
theorem at2_1 (a b : V) : atI [a, b] 1 = some b := rfl
/-- the runs from the top: true is X -/
def R (x y : Nat) : List (Bool × Nat) :=
  if h : 0 < x ∧ 0 < y ∧ x ≠ y then
    if x > y then (true, (x - 1) / y) :: R (x - (x - 1) / y * y) y else (false, (y - 1) / x) :: R x (y - (y - 1) / x * x)
  else []
termination_by x + y
decreasing_by
  · have h1 : 0 < (x - 1) / y := Nat.div_pos (by omega) h.2.1
    have h2 : 0 < (x - 1) / y * y := Nat.mul_pos h1 h.2.1
    omega
  · have h1 : 0 < (y - 1) / x := Nat.div_pos (by omega) h.1
    have h2 : 0 < (y - 1) / x * x := Nat.mul_pos h1 h.1
    omega
theorem R_nil {x y : Nat} (h : ¬ (0 < x ∧ 0 < y ∧ x ≠ y)) : R x y = [] := by rw [R, dif_neg h]
theorem R_x {x y : Nat} (h : 0 < y) (h2 : x > y) : R x y = (true, (x - 1) / y) :: R (x - (x - 1) / y * y) y := by
  rw [R, dif_pos ⟨by omega, h, by omega⟩, if_pos h2]
theorem R_y {x y : Nat} (h : 0 < x) (h2 : y > x) : R x y = (false, (y - 1) / x) :: R x (y - (y - 1) / x * x) := by
  rw [R, dif_pos ⟨h, by omega, by omega⟩, if_neg (by omega)]
theorem dm_le (x y : Nat) : (x - 1) / y * y ≤ x := Nat.le_trans (Nat.div_mul_le_self _ _) (Nat.sub_le _ _)
theorem dm_lt {x y : Nat} (h : 0 < y) (h2 : x > y) : x - (x - 1) / y * y < x ∧ 0 < x - (x - 1) / y * y := by
  have h1 : 0 < (x - 1) / y := Nat.div_pos (by omega) h
  have h3 : 0 < (x - 1) / y * y := Nat.mul_pos h1 h
  have h4 : (x - 1) / y * y ≤ x - 1 := Nat.div_mul_le_self _ _
  omega
theorem cast_div {x y : Nat} (h : 0 < x) : ((x : Int) - 1) / (y : Int) = (((x - 1) / y : Nat) : Int) := by
  rw [Int.natCast_ediv]
  congr 1
  omega
theorem cast_sub {x y : Nat} : (x : Int) - (((x - 1) / y : Nat) : Int) * (y : Int) = ((x - (x - 1) / y * y : Nat) : Int) := by
  rw [Int.ofNat_sub (dm_le x y), Int.natCast_mul]
def letS (b : Bool) : Str := if b then "X" else "Y"
def runD (r : Bool × Nat) : PyData := .tuple [.str (letS r.1), .int (r.2 : Int)]
def runsD (l : List (Bool × Nat)) : PyData := .list (l.map runD)
/-- the letters from the top, one by one -/
def L (x y : Nat) : List Bool :=
  if h : 0 < x ∧ 0 < y ∧ x ≠ y then
    if x > y then true :: L (x - y) y else false :: L x (y - x)
  else []
termination_by x + y
theorem L_nil {x y : Nat} (h : ¬ (0 < x ∧ 0 < y ∧ x ≠ y)) : L x y = [] := by rw [L, dif_neg h]
theorem L_x {x y : Nat} (h : 0 < y) (h2 : x > y) : L x y = true :: L (x - y) y := by rw [L, dif_pos ⟨by omega, h, by omega⟩, if_pos h2]
theorem L_y {x y : Nat} (h : 0 < x) (h2 : y > x) : L x y = false :: L x (y - x) := by rw [L, dif_pos ⟨h, by omega, by omega⟩, if_neg (by omega)]
theorem L_xs {y : Nat} (h : 0 < y) : ∀ (k x : Nat), k * y < x → L x y = List.replicate k true ++ L (x - k * y) y
  | 0, x, _ => by simp
  | k + 1, x, h2 => by
    have e : (k + 1) * y = k * y + y := Nat.succ_mul k y
    rw [e] at h2
    rw [L_x h (by omega), L_xs h k (x - y) (by omega), List.replicate_succ, List.cons_append, show x - y - k * y = x - (k + 1) * y by omega]
theorem L_ys {x : Nat} (h : 0 < x) : ∀ (k y : Nat), k * x < y → L x y = List.replicate k false ++ L x (y - k * x)
  | 0, y, _ => by simp
  | k + 1, y, h2 => by
    have e : (k + 1) * x = k * x + x := Nat.succ_mul k x
    rw [e] at h2
    rw [L_y h (by omega), L_ys h k (y - x) (by omega), List.replicate_succ, List.cons_append, show y - x - k * x = y - (k + 1) * x by omega]
def spell (l : List (Bool × Nat)) : List Bool := l.flatMap fun r => List.replicate r.2 r.1
theorem spell_R (x y : Nat) : spell (R x y) = L x y := by
  by_cases h : 0 < x ∧ 0 < y ∧ x ≠ y
  · by_cases h2 : x > y
    · have d := dm_lt h.2.1 h2
      rw [R_x h.2.1 h2]
      show List.replicate _ true ++ spell (R _ y) = _
      rw [spell_R (x - (x - 1) / y * y) y, ← L_xs h.2.1 ((x - 1) / y) x (by omega)]
    · have d := dm_lt h.1 (show y > x by omega)
      rw [R_y h.1 (by omega)]
      show List.replicate _ false ++ spell (R x _) = _
      rw [spell_R x (y - (y - 1) / x * x), ← L_ys h.1 ((y - 1) / x) y (by omega)]
  · rw [R_nil h, L_nil h]
    rfl
termination_by x + y
theorem spell_len : ∀ l : List (Bool × Nat), (spell l).length = (l.map (·.2)).sum
  | [] => rfl
  | r :: l => by
    show (List.replicate r.2 r.1 ++ spell l).length = _
    rw [List.length_append, List.length_replicate, spell_len l, List.map_cons, List.sum_cons]
theorem L_le (x y : Nat) : (L x y).length ≤ x + y := by
  by_cases h : 0 < x ∧ 0 < y ∧ x ≠ y
  · by_cases h2 : x > y
    · rw [L_x h.2.1 h2, List.length_cons]
      have := L_le (x - y) y
      omega
    · rw [L_y h.1 (by omega), List.length_cons]
      have := L_le x (y - x)
      omega
  · rw [L_nil h]
    exact Nat.zero_le _
termination_by x + y
/-- runs halve the numbers: there are few -/
theorem R_len (n : Nat) : ∀ (x y : Nat), x * y < 2 ^ n → (R x y).length ≤ n := by
  induction n with
  | zero =>
    intro x y h
    have z : ¬ (0 < x ∧ 0 < y ∧ x ≠ y) := fun ⟨h1, h2, _⟩ => by
      have := Nat.mul_pos h1 h2
      omega
    rw [R_nil z]
    exact Nat.le_refl _
  | succ n ih =>
    intro x y h
    by_cases c : 0 < x ∧ 0 < y ∧ x ≠ y
    · by_cases c2 : x > y
      · rw [R_x c.2.1 c2, List.length_cons]
        have d := dm_lt c.2.1 c2
        have e : (x - 1) / y * y + (x - 1) % y = x - 1 := by rw [Nat.mul_comm]; exact Nat.div_add_mod _ _
        have m : (x - 1) % y < y := Nat.mod_lt _ c.2.1
        have p : 0 < (x - 1) / y := Nat.div_pos (by omega) c.2.1
        have p2 : y ≤ (x - 1) / y * y := Nat.le_mul_of_pos_left _ p
        have half : 2 * (x - (x - 1) / y * y) ≤ x := by omega
        have q : 2 * ((x - (x - 1) / y * y) * y) ≤ x * y := by
          rw [← Nat.mul_assoc]
          exact Nat.mul_le_mul_right _ half
        have := ih (x - (x - 1) / y * y) y (by rw [Nat.pow_succ] at h; omega)
        omega
      · have c3 : y > x := by omega
        rw [R_y c.1 c3, List.length_cons]
        have d := dm_lt c.1 c3
        have e : (y - 1) / x * x + (y - 1) % x = y - 1 := by rw [Nat.mul_comm]; exact Nat.div_add_mod _ _
        have m : (y - 1) % x < x := Nat.mod_lt _ c.1
        have p : 0 < (y - 1) / x := Nat.div_pos (by omega) c.1
        have p2 : x ≤ (y - 1) / x * x := Nat.le_mul_of_pos_left _ p
        have half : 2 * (y - (y - 1) / x * x) ≤ y := by omega
        have q : 2 * (x * (y - (y - 1) / x * x)) ≤ x * y := by
          rw [show 2 * (x * (y - (y - 1) / x * x)) = x * (2 * (y - (y - 1) / x * x)) by rw [← Nat.mul_assoc, ← Nat.mul_assoc, Nat.mul_comm 2 x]]
          exact Nat.mul_le_mul_left _ half
        have := ih x (y - (y - 1) / x * x) (by rw [Nat.pow_succ] at h; omega)
        omega
    · rw [R_nil c]
      exact Nat.zero_le _
theorem R_len' {x y : Nat} (h : okP x y) : (R x y).length ≤ 8000 := by
  refine R_len 8000 x y ?_
  by_cases hy : 0 < y
  · have e : (2 : Nat) ^ 8000 = 2 ^ 4000 * 2 ^ 4000 := (Nat.pow_add 2 4000 4000)
    rw [e]
    exact Nat.mul_lt_mul'' h.2.1 h.2.2
  · have : y = 0 := by omega
    rw [this, Nat.mul_zero]
    exact Nat.pow_pos (by decide)
end Bx
namespace Bx
open PySem PySem.Spec PyProof.Rows L2
theorem noL_runD (r : Bool × Nat) : noL (runD r) = true := rfl
theorem PairAt.sameT {K : PySem.W.Frag} {H H' : Hp} {v : V} {x y : Nat} (h : PairAt K H v x y) (e : SameT H H') : PairAt K H' v x y := by
  obtain ⟨a, e1, h⟩ := h
  exact ⟨a, e1, e.seqT h⟩
theorem nat_abs {x n : Nat} (h : x < 2 ^ n) : ((x : Int)).natAbs < 2 ^ n := by rw [Int.natAbs_natCast]; exact h
theorem okDiv {i : Int} {y : Nat} (h0 : 0 < y) (h : y < 2 ^ 4000) : CDivW i (y : Int) := wide_div (by omega) (nat_abs h) (by decide) (by decide)
theorem okMul {x y : Nat} (h : x < 2 ^ 4000) (h2 : y < 2 ^ 4000) : CMulW (x : Int) (y : Int) := wide_mul (nat_abs h) (nat_abs h2) (by decide) (by decide) (by decide)
end Bx
namespace Bx
open PySem PySem.Spec PyProof.Rows L2
theorem sum_casts : ∀ l : List (Bool × Nat), ((l.map fun r => ((r.2 : Nat) : Int)).sum) = (((l.map (·.2)).sum : Nat) : Int)
  | [] => rfl
  | r :: l => by
    rw [List.map_cons, List.sum_cons, List.map_cons, List.sum_cons, sum_casts l, Int.natCast_add]
theorem sumR (x y : Nat) : ((R x y).map fun r => ((r.2 : Nat) : Int)).sum = (((L x y).length : Nat) : Int) := by rw [sum_casts, ← spell_len, spell_R]
theorem okP_small {x y : Nat} (h : ¬ (x = 0 ∧ y = 0)) (hx : x ≤ 1000000) (hy : y ≤ 1000000) : okP x y := by
  have e : 1000000 < 2 ^ 4000 := Nat.lt_of_lt_of_le (by decide : 1000000 < 2 ^ 20) (Nat.pow_le_pow_right (by decide) (by decide))
  exact ⟨h, Nat.lt_of_le_of_lt hx e, Nat.lt_of_le_of_lt hy e⟩
/-- a run of a list of runs -/
theorem run_get {K : PySem.W.Frag} {H : Hp} {us : List V} {l : List (Bool × Nat)} {i : Nat} {u : V} (g : DpAll K H us (l.map runD)) (hu : us[i]? = some u) :
    ∃ (c : Bool) (n : Nat) (p : Addr), l[i]? = some (c, n) ∧ u = .ref p ∧ SqT K H p [.str (letS c), .int (n : Int)] := by
  obtain ⟨d, hd, du⟩ := DpAll.get g hu
  obtain ⟨⟨c, n⟩, hr, rfl⟩ : ∃ r, l[i]? = some r ∧ runD r = d := by
    rw [List.getElem?_map] at hd
    cases q : l[i]? with
    | none => rw [q] at hd; cases hd
    | some r => rw [q] at hd; exact ⟨r, rfl, Option.some.inj hd⟩
  obtain ⟨p, a1, a2, rfl, hp, e1, e3⟩ := Dp.pair du
  cases Dp.str' e1
  cases Dp.int' e3
  exact ⟨c, n, p, hr, rfl, hp⟩
end Bx
namespace Bx
open PySem PySem.Spec PyProof.Rows L2
theorem runsD_depth (l : List (Bool × Nat)) : (runsD l).depth ≤ 2 := by
  show PyData.depthAll (l.map runD) + 1 ≤ 2
  have := depthAll_map (f := runD) (n := 1) (fun _ => Nat.le_refl _) l
  omega
theorem runsD_small {x y : Nat} (h : okP x y) : smallD (runsD (R x y)) = true := by
  refine smallL ?_ (smallDs_map (fun _ => rfl) _)
  have := R_len' h
  rw [List.length_map]
  omega
theorem Dp_runs {K : PySem.W.Frag} {H : Hp} {f : Addr} {us : List V} {l : List (Bool × Nat)} (h : SqL K H f us) (g : DpAll K H us (l.map runD)) : Dp K H (.ref f) (runsD l) := .lst h g
theorem letS_inj {a b : Bool} (h : a ≠ b) : decide (V.str (letS a) = V.str (letS b)) = false := by
  cases a <;> cases b
  · exact absurd rfl h
  · decide +kernel
  · decide +kernel
  · exact absurd rfl h
end Bx
namespace Bx
open PySem PySem.Spec PyProof.Rows L2
theorem beq_letS (a b : Bool) : (letS a == letS b) = (a == b) := by
  cases a <;> cases b <;> decide +kernel
theorem eqv_runD (x y : Bool × Nat) : PyData.eqv (runD x) (runD y) = decide (x = y) := by
  unfold runD
  simp only [PyData.eqv, PyData.eqvAll, beq_letS, Bool.and_true]
  rw [Bool.eq_iff_iff]
  simp [Prod.ext_iff]
  intro _
  omega
theorem canLay_runD (x : Bool × Nat) : (runD x).canLay0 = true := by
  obtain ⟨c, n⟩ := x
  cases c
  · show (PyData.canLay0 (.str "Y") && (true && true)) = true
    decide +kernel
  · show (PyData.canLay0 (.str "X") && (true && true)) = true
    decide +kernel
theorem canLay_map {α : Type} {f : α → PyData} (h : ∀ x, (f x).canLay0 = true) : ∀ l : List α, PyData.canLayAll0 (l.map f) = true
  | [] => by simp [PyData.canLayAll0]
  | x :: l => by
    rw [List.map_cons, PyData.canLayAll0, h x, canLay_map h l]
    rfl
theorem shaped_runD (x : Bool × Nat) : SeqAt.shaped (runD x) = true := by
  unfold SeqAt.shaped
  rw [canLay_runD]
  rfl
theorem shaped_runs (l : List (Bool × Nat)) : SeqAt.shaped (runsD l) = true := by
  unfold SeqAt.shaped
  have h : (runsD l).canLay0 = true := by
    show (PyData.list _).canLay0 = true
    rw [PyData.canLay0]
    exact canLay_map canLay_runD l
  have d := runsD_depth l
  rw [h, decide_eq_true (by omega)]
  rfl
theorem eqv_nil (l : List (Bool × Nat)) : PyData.eqv (runsD l) (.list []) = decide (l = []) := by
  cases l with
  | nil => rfl
  | cons a l => rfl
end Bx
-- needs lists deep pairs bottoms
/-! a table: modulus, flats, steeps, starts, rows -/
namespace Bx
open PySem PySem.Spec PyProof.Rows L2
structure Tb where
  m : Nat
  flats : List Bool
  steeps : List Bool
  starts : List Nat
  rows : List (Nat × Nat × Bool)
def boolsD (l : List Bool) : PyData := .tuple (l.map .bool)
def natsD (l : List Nat) : PyData := .tuple (l.map fun n : Nat => PyData.int (n : Int))
def rowD (r : Nat × Nat × Bool) : PyData := .tuple [.int (r.1 : Int), .int (r.2.1 : Int), .bool r.2.2]
def rowsD (l : List (Nat × Nat × Bool)) : PyData := .tuple (l.map rowD)
def tabD (t : Tb) : PyData := .tuple [.int (t.m : Int), boolsD t.flats, boolsD t.steeps, natsD t.starts, rowsD t.rows]
structure Tok (t : Tb) : Prop where
  md : t.m = 1 ∨ t.m = 2 ∨ t.m = 3 ∨ t.m = 6
  fl : t.flats.length = t.m
  sl : t.steeps.length = t.m
  tl : t.starts.length = t.m
  r0 : 0 < t.rows.length
  r1 : t.rows.length ≤ 1000
  st : ∀ s ∈ t.starts, s < t.rows.length
  rw1 : ∀ r ∈ t.rows, r.1 < t.rows.length
  rw2 : ∀ r ∈ t.rows, r.2.1 < t.rows.length
theorem Tok.m0 {t : Tb} (h : Tok t) : 0 < t.m ∧ t.m ≤ 6 := by
  rcases h.md with e | e | e | e <;> rw [e] <;> decide
theorem Dp.tup' {K : PySem.W.Frag} {H : Hp} {v : V} {ds : List PyData} (h : Dp K H v (.tuple ds)) : ∃ a xs, v = .ref a ∧ SqT K H a xs ∧ DpAll K H xs ds := by
  cases h with
  | tup h1 h2 => exact ⟨_, _, rfl, h1, h2⟩
theorem Dp.bools {K : PySem.W.Frag} {H : Hp} {v : V} {l : List Bool} (h : Dp K H v (boolsD l)) : ∃ a, v = .ref a ∧ SqT K H a (l.map V.bl) := by
  obtain ⟨a, xs, rfl, h1, h2⟩ := Dp.tup' h
  have e : xs = l.map V.bl := by
    clear h h1
    induction l generalizing xs with
    | nil => cases h2; rfl
    | cons b l ih =>
      cases h2 with
      | cons h3 h4 =>
        rw [Dp.bl' h3, ih _ h4]
        rfl
  subst e
  exact ⟨a, rfl, h1⟩
theorem Dp.nats {K : PySem.W.Frag} {H : Hp} {v : V} {l : List Nat} (h : Dp K H v (natsD l)) : ∃ a, v = .ref a ∧ SqT K H a (l.map fun n : Nat => V.int (n : Int)) := by
  obtain ⟨a, xs, rfl, h1, h2⟩ := Dp.tup' h
  have e : xs = l.map fun n : Nat => V.int (n : Int) := by
    clear h h1
    induction l generalizing xs with
    | nil => cases h2; rfl
    | cons b l ih =>
      cases h2 with
      | cons h3 h4 =>
        rw [Dp.int' h3, ih _ h4]
        rfl
  subst e
  exact ⟨a, rfl, h1⟩
theorem Dp.row {K : PySem.W.Frag} {H : Hp} {v : V} {r : Nat × Nat × Bool} (h : Dp K H v (rowD r)) : ∃ a, v = .ref a ∧ SqT K H a [.int (r.1 : Int), .int (r.2.1 : Int), .bl r.2.2] := by
  obtain ⟨a, xs, rfl, h1, h2⟩ := Dp.tup' h
  cases h2 with
  | cons h3 h4 =>
    cases h4 with
    | cons h5 h6 =>
      cases h6 with
      | cons h7 h8 =>
        cases h8
        cases Dp.int' h3
        cases Dp.int' h5
        cases Dp.bl' h7
        exact ⟨a, rfl, h1⟩
theorem Dp.rows {K : PySem.W.Frag} {H : Hp} {v : V} {l : List (Nat × Nat × Bool)} (h : Dp K H v (rowsD l)) : ∃ a us, v = .ref a ∧ SqT K H a us ∧ us.length = l.length ∧ ∀ (i : Nat) (r : Nat × Nat × Bool), l[i]? = some r → ∃ p, us[i]? = some (.ref p) ∧ SqT K H p [.int (r.1 : Int), .int (r.2.1 : Int), .bl r.2.2] := by
  obtain ⟨a, us, rfl, h1, h2⟩ := Dp.tup' h
  have hl := DpAll.length h2
  rw [List.length_map] at hl
  refine ⟨a, us, rfl, h1, hl, fun i r hr => ?_⟩
  have hi : i < us.length := by rw [hl]; exact (List.getElem?_eq_some_iff.mp hr).1
  obtain ⟨d, hd, dz⟩ := DpAll.get h2 (List.getElem?_eq_getElem hi)
  rw [List.getElem?_map, hr] at hd
  cases hd
  obtain ⟨p, e, hp⟩ := Dp.row dz
  exact ⟨p, by rw [List.getElem?_eq_getElem hi, e], hp⟩
/-- the parts of a table that stands in the heap -/
structure TabAt (K : PySem.W.Frag) (H : Hp) (a : Addr) (t : Tb) (f s b r : V) : Prop where
  sq : SqT K H a [.int (t.m : Int), f, s, b, r]
  fd : Dp K H f (boolsD t.flats)
  sd : Dp K H s (boolsD t.steeps)
  bd : Dp K H b (natsD t.starts)
  rd : Dp K H r (rowsD t.rows)
theorem Dp.tab {K : PySem.W.Frag} {H : Hp} {v : V} {t : Tb} (h : Dp K H v (tabD t)) : ∃ a f s b r, v = .ref a ∧ TabAt K H a t f s b r := by
  obtain ⟨a, xs, rfl, h1, h2⟩ := Dp.tup' h
  cases h2 with
  | cons g1 h2 =>
    cases h2 with
    | cons g2 h2 =>
      cases h2 with
      | cons g3 h2 =>
        cases h2 with
        | cons g4 h2 =>
          cases h2 with
          | cons g5 h2 =>
            cases h2
            cases Dp.int' g1
            exact ⟨a, _, _, _, _, rfl, h1, g2, g3, g4, g5⟩
theorem TabAt.dp {K : PySem.W.Frag} {H : Hp} {a : Addr} {t : Tb} {f s b r : V} (h : TabAt K H a t f s b r) : Dp K H (.ref a) (tabD t) := .tup h.sq (.cons (.int _) (.cons h.fd (.cons h.sd (.cons h.bd (.cons h.rd .nil)))))
theorem noL_bools (l : List Bool) : noL (boolsD l) = true := by
  unfold boolsD
  rw [noL]
  exact noLs_map (f := PyData.bool) (fun _ => rfl) l
theorem noL_nats (l : List Nat) : noL (natsD l) = true := by
  unfold natsD
  rw [noL]
  exact noLs_map (f := fun n : Nat => PyData.int (n : Int)) (fun _ => rfl) l
theorem noL_rows (l : List (Nat × Nat × Bool)) : noL (rowsD l) = true := by
  unfold rowsD
  rw [noL]
  exact noLs_map (f := rowD) (fun _ => rfl) l
theorem noL_tab (t : Tb) : noL (tabD t) = true := by
  unfold tabD
  rw [noL, noLs, noLs, noLs, noLs, noLs, noL_bools, noL_bools, noL_nats, noL_rows]
  rfl
/-! what a table tells -/
def goT (t : Tb) (s : Nat) (l : Bool) : Nat := match t.rows[s]? with
  | some r => if l then r.1 else r.2.1
  | none => 0
def goodT (t : Tb) (s : Nat) : Bool := match t.rows[s]? with
  | some r => r.2.2
  | none => false
theorem goT_lt {t : Tb} (h : Tok t) {s : Nat} (hs : s < t.rows.length) (l : Bool) : goT t s l < t.rows.length := by
  unfold goT
  rw [List.getElem?_eq_getElem hs]
  dsimp only
  have hm := List.getElem_mem hs
  split
  · exact h.rw1 _ hm
  · exact h.rw2 _ hm
/-- the spot behind many letters -/
def goN (t : Tb) (l : Bool) : Nat → Nat → Nat
  | 0, s => s
  | n + 1, s => goN t l n (goT t s l)
def begT (t : Tb) (g : Nat) : Nat := (t.starts[g % t.m]?).getD 0
/-- is the pair in the set -/
def hasT (t : Tb) (x y : Nat) : Bool :=
  if y = 0 then (t.flats[Nat.gcd x y % t.m]?).getD false
  else if x = 0 then (t.steeps[Nat.gcd x y % t.m]?).getD false
  else goodT t (((R x y).reverse).foldl (fun s r => goN t r.1 r.2 s) (begT t (Nat.gcd x y)))
end Bx
-- needs clsrules
-- imports HandS.ClsMeth HandS.HeadHook2
/-! C.f, a number that stands in the class -/
namespace Bx
open PySem PySem.Spec PyProof.Rows L2
def cintB (K : PySem.W.Frag) (C : Addr) (f : Str) (n : Int) : Bool := match PySem.W.findCls K (.ref C) (.type "type") f with
  | some (.val (.int i _)) => decide (i = n)
  | _ => false
theorem cintB_ok {K : PySem.W.Frag} {C : Addr} {f : Str} {n : Int} (h : cintB K C f n = true) : ∃ t, ClX.CVal K C (.type "type") f (.int n) (.int n t) := by
  unfold cintB at h
  split at h
  · rename_i i t e
    obtain rfl := of_decide_eq_true h
    exact ⟨t, e, t, rfl⟩
  · cases h
end Bx
-- imports HandS.Set HandS.SetFor HandS.Strs HandS.SetKeys PyProof.Rows.SortShellAny
/-! sets of texts: a list of texts up to its order; sorted(set(texts)) -/
namespace TxS
open PySem PySem.Spec PyProof.Rows L2
/-- the text of a set's entry -/
def tx (q : Int × Value) : Str := match q.2 with
  | .str z _ => z
  | _ => Str.empty
def Tx (w : World) (q : Int × Value) : Prop := ∃ z u, q.2 = Value.str z u ∧ q.1 = hashStr w z
/-- at D lies a set of the texts zs, in some order -/
structure Holds (w : World) (h : Heap) (D : Addr) (zs : List Str) : Prop where
  ex : ∃ o es ep t, h.get? D = some o ∧ o.ExactSet ∧ o.data = .set es ep t ∧ (∀ q ∈ es.toList, Tx w q) ∧ (es.toList.map tx).Perm zs ∧
    es.size < scanBound ∧ t.fits es.size = true ∧ Ris t.place.toList ∧ (w.params.followText "set-order" = true ∨ t.led = true)
  nd : zs.Nodup
section
variable {P : Program} {w : World} {h h' : Heap} {D : Addr} {zs : List Str}
theorem Holds.mono (X : Holds w h D zs) (k : ∀ o, h.get? D = some o → h'.get? D = some o) : Holds w h' D zs := by
  obtain ⟨⟨o, es, ep, t, g, r⟩, nd⟩ := X
  exact ⟨⟨o, es, ep, t, k o g, r⟩, nd⟩
theorem Tx.el {l : List (Int × Value)} (g : ∀ q ∈ l, Tx w q) : ElemsOf (PySem.strKind P w) l := fun q hq => by
  obtain ⟨z, u, e, f⟩ := g q hq
  refine ⟨⟨z, ?_, f⟩, ?_⟩
  · rw [e]
    exact strKind_is P w z u
  · rw [e]
    rfl
theorem Tx.iff {q : Int × Value} (g : Tx w q) (z : Str) : (PySem.strKind P w).is z q.2 = true ↔ tx q = z := by
  obtain ⟨y, u, e, _⟩ := g
  unfold tx
  rw [e]
  show (y == z) = true ↔ y = z
  exact beq_iff_eq
theorem Tx.mem {l : List (Int × Value)} (g : ∀ q ∈ l, Tx w q) (z : Str) : z ∈ l.map tx ↔ ∃ q ∈ l, (PySem.strKind P w).is z q.2 = true := by
  rw [List.mem_map]
  exact ⟨fun ⟨q, hq, e⟩ => ⟨q, hq, (Tx.iff (g q hq) z).mpr e⟩, fun ⟨q, hq, e⟩ => ⟨q, hq, (Tx.iff (g q hq) z).mp e⟩⟩
end
/-- with one more text -/
def ins (z : Str) (zs : List Str) : List Str := if z ∈ zs then zs else z :: zs
theorem ins_nd {z : Str} {zs : List Str} (h : zs.Nodup) : (ins z zs).Nodup := by
  unfold ins
  by_cases c : z ∈ zs
  · rw [if_pos c]
    exact h
  · rw [if_neg c]
    exact List.nodup_cons.mpr ⟨c, h⟩
theorem mem_ins {y z : Str} {zs : List Str} : y ∈ ins z zs ↔ y = z ∨ y ∈ zs := by
  unfold ins
  by_cases c : z ∈ zs
  · rw [if_pos c]
    exact ⟨.inr, fun e => e.elim (fun e => by rw [e]; exact c) id⟩
  · rw [if_neg c]
    exact List.mem_cons
theorem ins_len (z : Str) (zs : List Str) : (ins z zs).length ≤ zs.length + 1 := by
  unfold ins
  by_cases c : z ∈ zs
  · rw [if_pos c]
    omega
  · rw [if_neg c]
    exact Nat.le_refl _
section
variable {P : Program} {w : World} {A : Around} {E : Value → Shared → Prop} {s : Shared} {D : Addr} {zs : List Str}
theorem put_get {h : Heap} {o : Obj} {es es' : Array (Int × Value)} {ep : Nat} {t t' : SetTable} (ho : h.get? D = some o) (hd : o.data = .set es ep t) :
    (h.update D (Obj.putSet es' t')).get? D = some { o with data := .set es' (ep + 1) t' } := by
  have e := putSet_of es' t' hd
  have g := Heap.get?_update_self (Obj.putSet es' t') ho (by rw [e]; rfl)
  rwa [e] at g
/-- the end of an addition: the entries are laid, and laid anew where the table is full -/
theorem add_end {tell : Bool → Sem Unit} (htell : ∀ (b : Bool) (s₁ : Shared) (F : Unit → Shared → Prop), F () s₁ → wpAny (model P w) A (tell b) F E s₁)
    {o : Obj} {es : Array (Int × Value)} {ep : Nat} {t : SetTable} (ho : s.heap.get? D = some o) (hx : o.ExactSet) (hd : o.data = .set es ep t)
    {fs : Array (Int × Value)} {u : SetTable} (g : ∀ q ∈ fs.toList, Tx w q) (pm : (fs.toList.map tx).Perm zs) (nd : zs.Nodup) (small : fs.size < scanBound) (fit : u.fits fs.size = true) (ri : Ris u.place.toList)
    (ld : w.params.followText "set-order" = true ∨ u.led = true) {dm : Bool} {F : Option Bool → Shared → Prop}
    (hF : ∀ h', Heap.SameBut D s.heap h' → Holds w h' D zs → F (some true) { s with heap := h' }) :
    wpAny (model P w) A (storeSet D fs u >>= fun _ => if (!dm && u.tooFull) = true then
        (tell (relayAll u fs (SetTable.grown fs.size)).2.2 >>= fun _ => storeSet D (relayAll u fs (SetTable.grown fs.size)).1 (relayAll u fs (SetTable.grown fs.size)).2.1 >>= fun _ => pure (some true))
      else pure (some true)) F E s := by
  refine wpAny_bind (wpAny_storeSet_of ho hd ?_ (fits_of_scanBound small))
  have ho1 : (s.heap.update D (Obj.putSet fs u)).get? D = some { o with data := .set fs (ep + 1) u } := put_get ho hd
  have kept := Heap.SameBut.update s.heap D (Obj.putSet fs u)
  by_cases full : (!dm && u.tooFull) = true
  · rw [if_pos full]
    have q1 := relayAll_perm u fs (SetTable.grown fs.size)
    have q2 := relayAll_fits u fs (SetTable.grown fs.size)
    have q3 := relayAll_ris u fs (SetTable.grown fs.size)
    have q4 := relayAll_led u fs (SetTable.grown fs.size)
    revert q1 q2 q3 q4
    generalize relayAll u fs (SetTable.grown fs.size) = Y
    obtain ⟨gs, v, gave⟩ := Y
    intro q1 q2 q3 q4
    have len : gs.size = fs.size := by
      have := q1.length_eq
      rwa [Array.length_toList, Array.length_toList] at this
    have small2 : gs.size < scanBound := by omega
    refine wpAny_bind (htell _ _ _ ?_)
    refine wpAny_bind (wpAny_storeSet_of ho1 rfl ?_ (fits_of_scanBound small2))
    refine wpAny_pure (hF _ (kept.trans (Heap.SameBut.update _ D _)) ⟨⟨_, gs, _, v, put_get ho1 rfl, hx, rfl, fun q hq => g q (q1.mem_iff.mp hq), (q1.map tx).trans pm, small2, q2, q3, ?_⟩, nd⟩)
    rcases ld with l | l
    · exact .inl l
    · exact .inr (q4.trans l)
  · rw [if_neg full]
    exact wpAny_pure (hF _ kept ⟨⟨_, fs, _, u, ho1, hx, rfl, g, pm, small, fit, ri, ld⟩, nd⟩)
theorem add_hashed {z : Str} {tk : Tok} {F : Bool → Shared → Prop} (X : Holds w s.heap D zs) (room : zs.length + 1 < scanBound)
    (hF : ∀ (b : Bool) h', Heap.SameBut D s.heap h' → Holds w h' D (ins z zs) → F b { s with heap := h' }) :
    wpAny (model P w) A (setAddHashed D (.str z tk) ((PySem.strKind P w).hash z)) F E s := by
  obtain ⟨⟨o, es, ep, t, ho, hx, hd, g, pm, small, fit, ri, ld⟩, nd⟩ := X
  have hk : (PySem.strKind P w).is z (.str z tk) = true := strKind_is P w z tk
  have hsc : (Value.str z tk).scannable = true := rfl
  have el : ElemsOf (PySem.strKind P w) es.toList := Tx.el g
  have hsz : es.size = zs.length := by
    have := pm.length_eq
    rwa [List.length_map, Array.length_toList] at this
  unfold setAddHashed setAddHashedIn
  refine wpAny_holding (wpAny_bind (wpAny_setState_of ho hd fit ?_))
  dsimp only
  rw [byScan_of hsc small el]
  simp only [↓reduceIte]
  unfold setAddByScan
  refine wpAny_bind ?_
  refine wpAny_bind (wpAny_rule ?_)
  refine wpAny_bind (wpAny_setScan_of hk ho hd fit el ?_)
  cases hfi : List.findIdx? (fun q => (PySem.strKind P w).is z q.2) es.toList with
  | some j =>
    dsimp only
    obtain ⟨hj, pj, _⟩ := List.findIdx?_eq_some_iff_getElem.mp hfi
    have hz : z ∈ zs := pm.mem_iff.mp ((Tx.mem (P := P) g z).mpr ⟨_, List.getElem_mem hj, pj⟩)
    refine wpAny_pure (wpAny_pure (hF _ s.heap (Heap.SameBut.refl D s.heap) ⟨⟨o, es, ep, t, ho, hx, hd, g, ?_, small, fit, ri, ld⟩, ins_nd nd⟩))
    rw [show ins z zs = zs from if_pos hz]
    exact pm
  | none =>
    dsimp only
    have hz : z ∉ zs := fun m => by
      obtain ⟨q, hq, e⟩ := (Tx.mem (P := P) g z).mp (pm.mem_iff.mpr m)
      have c := List.findIdx?_eq_none_iff.mp hfi q hq
      rw [e] at c
      cases c
    have gw : ∀ (b : Bool) {s₁ : Shared} {F' : Unit → Shared → Prop}, F' () s₁ → wpAny (model P w) A (match b with | true => rule "set.scan.the-table-gave-way" | false => pure ()) F' E s₁ := by
      intro b s₁ F' q
      cases b with
      | true => exact wpAny_rule q
      | false => exact wpAny_pure q
    have q1 := layNew_perm t es ((PySem.strKind P w).hash z) (.str z tk)
    have q2 := layNew_fits t es ((PySem.strKind P w).hash z) (.str z tk)
    have q3 := layNew_ris t es ((PySem.strKind P w).hash z) (.str z tk) ri
    have q4 := layNew_led t es ((PySem.strKind P w).hash z) (.str z tk)
    revert q1 q2 q3 q4
    generalize layNew t es ((PySem.strKind P w).hash z) (.str z tk) = Y
    obtain ⟨fs, u, dm, gave⟩ := Y
    intro q1 q2 q3 q4
    dsimp only at q1 q2 q3 q4 ⊢
    rw [Array.toList_push] at q1
    have q5 : fs.toList.Perm (((PySem.strKind P w).hash z, Value.str z tk) :: es.toList) := q1.trans (List.perm_append_singleton _ _)
    have g1 : ∀ q ∈ fs.toList, Tx w q := fun q hq => by
      rcases List.mem_cons.mp (q5.mem_iff.mp hq) with e | e
      · rw [e]
        exact ⟨z, tk, rfl, rfl⟩
      · exact g q e
    have pm1 : (fs.toList.map tx).Perm (ins z zs) := by
      rw [show ins z zs = z :: zs from if_neg hz]
      exact (q5.map tx).trans (List.Perm.cons z pm)
    have len : fs.size = zs.length + 1 := by
      have := q5.length_eq
      rw [Array.length_toList, List.length_cons, Array.length_toList] at this
      omega
    have small1 : fs.size < scanBound := by omega
    have ld1 : w.params.followText "set-order" = true ∨ u.led = true := ld.imp id fun l => q4.trans l
    refine wpAny_bind (gw _ ?_)
    split
    · refine wpAny_bind ?_
      rw [hashByValue_scannable 8 hsc]
      refine wpAny_pure ?_
      refine add_end (zs := ins z zs) ?_ ho hx hd g1 pm1 (ins_nd nd) small1 ?_ ?_ ?_ ?_
      · intro b s₁ F' q
        cases b with
        | true => exact wpAny_rule q
        | false => exact wpAny_pure q
      · split
        · first | exact q2 | exact SetTable.fits_plain_off q2
        · first | exact q2 | exact SetTable.fits_plain_off q2
      · split
        · exact q3
        · exact q3
      · split
        · exact ld1
        · exact ld1
      · intro h' sb r
        exact wpAny_pure (hF _ h' sb r)
    · refine wpAny_bind (wpAny_pure ?_)
      simp only [↓reduceIte]
      refine add_end (zs := ins z zs) ?_ ho hx hd g1 pm1 (ins_nd nd) small1 q2 q3 ld1 ?_
      · intro b s₁ F' q
        cases b with
        | true => exact wpAny_rule q
        | false => exact wpAny_pure q
      · intro h' sb r
        exact wpAny_pure (hF _ h' sb r)
end
theorem fresh_at {w : World} {h : Heap} {D : Addr} (ho : h.get? D = some { cls := .type "set", dict := none, data := .set #[] 0 (.fresh 0 0 (!w.params.followText "set-order")) }) : Holds w h D [] := by
  refine ⟨⟨_, #[], 0, _, ho, ⟨rfl, rfl, rfl⟩, rfl, fun q hq => by simp at hq, List.Perm.refl _, by decide, by rfl, List.Pairwise.nil, ?_⟩, List.nodup_nil⟩
  show _ ∨ (!w.params.followText "set-order") = true
  cases w.params.followText "set-order" with
  | true => exact .inl rfl
  | false => exact .inr rfl
/-- the texts of a list, each once -/
def once (xs : List Str) : List Str := xs.foldl (fun zs z => ins z zs) []
theorem once_snoc (xs : List Str) (z : Str) : once (xs ++ [z]) = ins z (once xs) := by
  unfold once
  rw [List.foldl_append]
  rfl
theorem once_all (xs : List Str) : (once xs).Nodup ∧ (∀ z, z ∈ once xs ↔ z ∈ xs) ∧ (once xs).length ≤ xs.length := by
  have key : ∀ ys zs : List Str, ys.foldl (fun zs z => ins z zs) zs = ys.foldl (fun zs z => ins z zs) zs ∧ (zs.Nodup → (ys.foldl (fun zs z => ins z zs) zs).Nodup) ∧
      (∀ z, z ∈ ys.foldl (fun zs z => ins z zs) zs ↔ z ∈ ys ∨ z ∈ zs) ∧ (ys.foldl (fun zs z => ins z zs) zs).length ≤ ys.length + zs.length := by
    intro ys
    induction ys with
    | nil => exact fun zs => ⟨rfl, id, fun z => ⟨.inr, fun h => h.elim (fun h => absurd h List.not_mem_nil) id⟩, by simp⟩
    | cons y ys ih =>
      intro zs
      obtain ⟨_, i1, i2, i3⟩ := ih (ins y zs)
      refine ⟨rfl, fun nd => i1 (ins_nd nd), fun z => ?_, ?_⟩
      · rw [List.foldl_cons, i2 z, mem_ins, List.mem_cons]
        constructor
        · rintro (h | h | h)
          · exact .inl (.inr h)
          · exact .inl (.inl h)
          · exact .inr h
        · rintro ((h | h) | h)
          · exact .inr (.inl h)
          · exact .inl h
          · exact .inr (.inr h)
      · have := ins_len y zs
        rw [List.foldl_cons, List.length_cons]
        omega
  obtain ⟨_, k1, k2, k3⟩ := key xs []
  exact ⟨k1 List.nodup_nil, fun z => (k2 z).trans ⟨fun h => h.elim id (fun h => absurd h List.not_mem_nil), .inl⟩, k3⟩
section
variable {P : Program} {w : World} {A : Around} {E : Value → Shared → Prop} {s : Shared}
theorem fill {I : Addr} {fp wr : List Addr} {G : Array GenState → Array GenState → Prop} {n : Nat} {Pv : Nat → Value → Prop} {St : Nat → Shared → Prop} {R : Result → Shared → Prop}
    (W : WalksS P w A.in1 I fp wr G n Pv St) (D : Addr) (hD : D ∉ fp) (xs : List Str) (hn : n = xs.length) (room : xs.length + 1 < scanBound) (hv : ∀ i v, Pv i v → ∃ z tk, xs[i]? = some z ∧ v = .str z tk) :
    ∀ (d i : Nat) (s : Shared), n - i = d → i ≤ n → St i s → Holds w s.heap D (once (xs.take i)) →
      (∀ s', Moved (D :: wr) G s s' → Holds w s'.heap D (once xs) → R (.ok (.ret .none)) s') → codeAny (model P w) A (.builtin "set.update.loop" ⟨[.ref D, .ref I], []⟩) R s := by
  have hw : D ∉ wr := fun m => hD (W.sub _ m)
  have hs : ∀ c ∈ wr, c ∈ D :: wr := fun c hc => List.mem_cons_of_mem _ hc
  intro d
  induction d with
  | zero =>
    intro i s hd hi st X hR
    obtain rfl : i = n := by omega
    refine codeAny_builtin F.entry_set_update_loop ?_
    rw [Around.under_plainId F.plain_set_update_loop _]
    show wpAny _ A.in1 (pyNext (.ref I) >>= _) _ _ s
    refine wpAny_bind (W.done s _ _ st fun s' m => ?_)
    show wpAny _ A.in1 (ret Value.none) _ _ s'
    rw [List.take_of_length_le (by omega)] at X
    exact wpAny_pure (hR s' (m.mono hs) (X.mono fun o e => m.heap D o hw e))
  | succ d ih =>
    intro i s hd hi st X hR
    have lt : i < n := by omega
    refine codeAny_builtin F.entry_set_update_loop ?_
    rw [Around.under_plainId F.plain_set_update_loop _]
    show wpAny _ A.in1 (pyNext (.ref I) >>= _) _ _ s
    refine wpAny_bind (W.item i s _ _ lt st fun v s' pv st' m => ?_)
    obtain ⟨z, tk, hz, rfl⟩ := hv i v pv
    have X' : Holds w s'.heap D (once (xs.take i)) := X.mono fun o e => m.heap D o hw e
    have lo : (once (xs.take i)).length ≤ i := Nat.le_trans (once_all _).2.2 (by rw [List.length_take]; omega)
    show wpAny _ A.in1 (holding [Value.str z tk] (setAdd D (.str z tk)) >>= _) _ _ s'
    refine wpAny_bind (wpAny_holding ?_)
    unfold setAdd
    refine wpAny_holding (wpAny_bind ((PySem.strKind P w).pyHash (k := z) (strKind_is _ _ _ _) ?_))
    refine add_hashed (s := { s' with toks := s'.toks + 1 }) X' (by omega) fun b h' sb X2 => ?_
    have X3 : Holds w h' D (once (xs.take (i + 1))) := by
      rw [List.take_add_one, hz]
      show Holds w h' D (once (xs.take i ++ [z]))
      rw [once_snoc]
      exact X2
    refine wpAny_pure ⟨plainId_quiet F.plain_set_update_loop _, ih (i + 1) _ (by omega) lt (W.frame _ s' _ _ st' (Nat.le_succ _) fun c hc o e => ?_) X3 fun s'' m' X4 => ?_⟩
    · rw [sb.2 c fun q => hD (q ▸ hc)]
      exact e
    · refine hR s'' (Moved.trans W.gtrans ((m.mono hs).then_heap (Nat.le_succ _) fun c o hc e => ?_) m') X4
      rw [sb.2 c fun q => hc (q ▸ List.mem_cons_self)]
      exact e
set_option maxRecDepth 100000 in
set_option maxHeartbeats 3200000 in
/-- set(xs) of a list of texts -/
theorem call_set {l : Addr} {its : Array Value} {xs : List Str} {F' : Value → Shared → Prop} (hh : A.handled = none) (hl : s.heap.IsList l its) (hi : StrsAre its.toList xs) (room : xs.length + 1 < scanBound)
    (hF : ∀ (h' : Heap) (tk : Nat), Holds w h' s.heap.objs.size (once xs) → (∀ c o, s.heap.get? c = some o → h'.get? c = some o) → F' (.ref s.heap.objs.size) { s with heap := h', toks := tk }) :
    wpAny (model P w) A (call (.type "set") [.ref l]) F' E s := by
  have hsz : its.size = xs.length := by
    have := StrsAre.len_eq hi
    rw [Array.length_toList] at this
    exact this
  obtain ⟨c, tl, hmro⟩ := F.called_set.mro
  have hmade := F.called_set.made
  have hsub := F.called_set.sub
  refine wpAny_call (codeAny_of_tree ?_)
  show wpAny _ _ (callAny (.type "set") _) _ _ _
  refine wpAny_pure ⟨Code.quiet_builtin _ (by decide +kernel), codeAny_builtin F.entry_type_call ?_⟩
  rw [Around.under_plain (weight_type_call_type "set" [.ref l] []) rfl]
  have h1 := F.called_set.notType
  have h2 := F.called_set.canCreate
  have hct := F.typeCall_set_1 (.ref l)
  repeat (any_goals (first | assumption | wp_step))

  obtain ⟨od, hod⟩ : ∃ o : Obj, o = { cls := .type "set", dict := none, data := .set #[] 0 (.fresh 0 0 (!w.params.followText "set-order")) } := ⟨_, rfl⟩
  refine codeAny_mono (code_set_led1 (.ref l) (E := E) (Q₁ := fun v s₁ => v = .ref s.heap.objs.size ∧ s₁ = { s with heap := s.heap.push od }) ⟨rfl, by rw [hod]⟩) fun r s₁ hr => ?_
  have hod0 : od.cls = .type "set" := by rw [hod]
  cases r with
  | error e => exact hr
  | ok fl =>
    cases fl with
    | ret obj =>
      obtain ⟨rfl, rfl⟩ := hr
      have hD : (s.heap.push od).get? s.heap.objs.size = some od := Heap.get?_push_size _ (by rw [hod]; rfl)
      have hT : Shared.TypeIs { s with heap := s.heap.push od } (.ref s.heap.objs.size) "set" := ⟨_, hD, hod0⟩
      have hli := F.called_set.init.lookup
      have hbi := F.called_set.init.bind (.ref s.heap.objs.size)
      repeat (any_goals (first | assumption | wp_step))

      refine codeAny_mono (codeAny_call_builtin (R := wants (fun r s₂ => r = .none ∧ ∃ h' tk, s₂ = { s with heap := h', toks := tk } ∧ Holds w h' s.heap.objs.size (once xs) ∧
          (∀ c o, s.heap.get? c = some o → h'.get? c = some o)) E) F.called_set.init.plain F.entry_set_init (check_set_init_1 hT ?_)) fun r₂ s₂ hr₂ => ?_
      · obtain ⟨ol, hol, hcl, nl, hdl⟩ := hl
        obtain ⟨oc, od2, odt, osl⟩ := ol
        simp only at hcl hdl
        subst hcl; subst hdl
        have hol' : (s.heap.push od).get? l = some { cls := .type "list", dict := od2, data := .seq its nl, slots := osl } := Heap.get?_push_of_some _ hol
        have hsls := F.sub_list_set
        have hslf := F.sub_list_frozenset
        have hne : (Value.type "list" == Value.type "dict") = false := by decide
        have ll : l < s.heap.objs.size := Heap.lt_size hol
        have sz1 : (s.heap.push od).objs.size = s.heap.objs.size + 1 := Heap.size_push ..
        have n1 : l ≠ (s.heap.push od).objs.size := by rw [sz1]; exact Nat.ne_of_lt (Nat.lt_succ_of_lt ll)
        have n2 : s.heap.objs.size ∉ [(s.heap.push od).objs.size, l] := by
          rw [sz1]
          intro m
          rcases List.mem_cons.mp m with e | e
          · exact absurd e (Nat.ne_of_lt (Nat.lt_succ_self _))
          · exact absurd (List.mem_singleton.mp e) (Nat.ne_of_gt ll)
        have hD2 : ((s.heap.push od).push { cls := .type "list_iterator", data := .fields #[.ref l, .int 0 0] }).get? s.heap.objs.size = some od := Heap.get?_push_of_some _ hD
        have hl1 : (s.heap.push od).IsList l its := ⟨_, hol', rfl, nl, rfl⟩
        subst hod
        unfold Builtin.«set.__init__» noKeywords Builtin.Frozenset.updateFrom
        generalize hPI : pyIter = PI
        wp_walk
        subst hPI

        refine wpAny_pyIter_list hl1 ?_
        refine wpAny_bind (wpAny_runValue ?_)
        have hv : ∀ (i : Nat) (v : Value), its[i]? = some v → ∃ z tk, xs[i]? = some z ∧ v = .str z tk := fun i v e => by
          have lt : i < xs.length := by rw [← hsz]; exact (Array.getElem?_eq_some_iff.mp e).1
          obtain ⟨tk, q⟩ := SS.strs_at hi i v (by rw [Array.getElem?_toList]; exact e)
          refine ⟨xs[i], tk, List.getElem?_eq_getElem lt, ?_⟩
          rw [q, List.getD_eq_getElem?_getD, List.getElem?_eq_getElem lt]
          rfl
        refine fill ((Walks.list (by simp [hh]) _ l n1 its).toS) s.heap.objs.size n2 xs hsz room hv (its.size - 0) 0 _ (by omega) (Nat.zero_le _) ⟨⟨_, Heap.get?_push_size _ rfl, rfl, rfl⟩, hl1.push _⟩ ?start ?behind
        case start =>
          exact fresh_at hD2
        case behind =>
          intro s' m X
          obtain ⟨h', g2, d', tk', os'⟩ := s'
          obtain rfl : g2 = s.gens := m.gens
          obtain rfl : d' = s.drawn := m.drawn
          obtain rfl : os' = s.os := m.os
          show wpAny _ _ _ _ _ _
          refine wpAny_pure ?_
          show wpAny _ _ (ret Value.none) _ _ _
          refine wpAny_pure ⟨rfl, h', tk', rfl, X, fun c o e => ?_⟩
          have lc : c < s.heap.objs.size := Heap.lt_size e
          refine m.heap c o (fun q => ?_) (Heap.get?_push_of_some _ (Heap.get?_push_of_some _ e))
          rcases List.mem_cons.mp q with z | z
          · exact absurd z (Nat.ne_of_lt lc)
          · have z := List.mem_singleton.mp z
            rw [sz1] at z
            exact absurd z (Nat.ne_of_lt (Nat.lt_succ_of_lt lc))
      · cases r₂ with
        | error e => exact hr₂
        | ok fl₂ =>
          cases fl₂ with
          | ret r =>
            obtain ⟨rfl, h', tk, rfl, X, kk⟩ := hr₂
            repeat (any_goals (first | assumption | wp_step))
            exact hF _ _ X kk
          | _ => exact hr₂.elim
    | _ => exact hr.elim
end
section
variable {P : Program} {w : World} {A : Around} {E : Value → Shared → Prop} {s : Shared} {D : Addr} {zs : List Str}
theorem strs_of_vals : ∀ l : List Value, (∀ v ∈ l, ∃ z tk, v = Value.str z tk) → StrsAre l (l.map fun v => tx (0, v))
  | [], _ => .nil
  | v :: l, h => by
    obtain ⟨z, tk, rfl⟩ := h v List.mem_cons_self
    exact .cons z tk (strs_of_vals l fun u hu => h u (List.mem_cons_of_mem _ hu))
/-- sorted(found) of a set of texts -/
theorem call_sorted {F' : Value → Shared → Prop} (X : Holds w s.heap D zs) (hh : A.handled = none) (lim : zs.length ≤ sizeLine)
    (hF : ∀ s' p (out : Array Value) (c : Nat) (ys : List Str), (∀ c o, s.heap.get? c = some o → s'.heap.get? c = some o) → s'.gens = s.gens → s'.os = s.os → s.heap.objs.size ≤ p →
      s'.heap.get? p = some (seqObj "list" out c) → StrsAre out.toList ys → ys.Perm zs → sortedS ys = true → F' (.ref p) s') :
    wpAny (model P w) A (call (.builtin "sorted") [.ref D]) F' E s := by
  obtain ⟨⟨o, es, ep, t, ho, hx, hd, g, pm, small, fit, ri, ld⟩, nd⟩ := X
  refine Calls.call_function_entry kind_sorted plain_sorted entry_sorted (args_sorted1 _) ?_
  unfold Builtin.«sorted»
  refine wpAny_bind (m := checkCount "sorted" 1 1 _) (wpAny_pure ?_)
  refine wpAny_bind (collect_set (A := A.in1) hh ⟨o, ho, hx.1, hd⟩ fit small ri ld fun s1 vs k1 z1 g1 o1 pv => ?_)
  have all : StrsAre vs (vs.map fun v => tx (0, v)) := strs_of_vals vs fun v hv => by
    obtain ⟨q, hq, e⟩ := List.mem_map.mp (pv.mem_iff.mp hv)
    obtain ⟨z, tk, e2, _⟩ := g q hq
    exact ⟨z, tk, by rw [← e]; exact e2⟩
  have pz : (vs.map fun v => tx (0, v)).Perm zs := by
    have := pv.map fun v => tx (0, v)
    rw [List.map_map] at this
    exact this.trans pm
  have len : vs.length = zs.length := by
    have := pz.length_eq
    rwa [List.length_map] at this
  refine wpAny_bind (wpAny_newList ?_ (by omega))
  have hoL : (s1.heap.push (seqObj "list" vs.toArray 0)).get? s1.heap.objs.size = some (seqObj "list" vs.toArray 0) := Heap.get?_push_size _ rfl
  have tree : ∀ {F2 : Fin → Shared → Prop}, (∀ (out : Array Value) (ys : List Str), StrsAre out.toList ys → ys.Perm (vs.map fun v => tx (0, v)) → sortedS ys = true → F2 (.done (.ret .none)) { s1 with heap := sortedHeap (s1.heap.push (seqObj "list" vs.toArray 0)) s1.heap.objs.size vs out }) →
      ∀ (A2 : Around) (E2 : Value → Shared → Prop), wpAny (model P w) A2 (Builtin.«list.sort» ⟨[.ref s1.heap.objs.size], []⟩) F2 E2 { s1 with heap := s1.heap.push (seqObj "list" vs.toArray 0) } := fun {F2} q A2 E2 => by
    refine list_sort_treeKAny strKind_oneLt (s := { s1 with heap := s1.heap.push (seqObj "list" vs.toArray 0) }) hoL all.keysOf (fun v₁ v₂ rest e => keyKind_strs (by rw [← e]; exact all)) (by omega) fun st hp hs => ?_
    obtain ⟨ys, h1, h2, h3⟩ := sorted_out_str all hp hs
    exact q _ ys h1 h2 h3
  refine wpAny_bind (wpAny_holding (wpAny_call_entry slot_list_sort ⟨_, hoL, rfl⟩ entry_list_sort (tree (fun out ys a1 a2 a3 => ⟨_, rfl, ?_⟩) _ _) (args_list_sort _)))
  obtain ⟨c, hc⟩ := sortedHeap_at (vs := vs) (out := out) hoL
  refine wpAny_pure ⟨_, rfl, hF _ s1.heap.objs.size out c ys (fun b u e => ?_) g1 o1 z1 hc a1 (a2.trans pz) a3⟩
  have q := k1 b u e
  have lt := Heap.lt_size q
  show (sortedHeap (s1.heap.push (seqObj "list" vs.toArray 0)) s1.heap.objs.size vs out).get? b = some u
  rw [sortedHeap_old (Nat.ne_of_lt lt) (by rw [size_push']; exact Nat.lt_succ_of_lt lt)]
  exact Heap.get?_push_of_some _ q
end
/-! ### the rule -/
/-- sorted(set(xs)), xs a list of texts -/
def tSortedSet (K : PySem.W.Frag) (te : TE) : TE := fun σ H Q => te σ H fun x H1 => ∃ l, ∃ xs : List Str, x = .ref l ∧ SqL K H1 l (xs.map V.str) ∧ xs.length ≤ 1000 ∧
  ∀ (ys : List Str) (p : Addr), ys.Nodup → (∀ z, z ∈ ys ↔ z ∈ xs) → sortedS ys = true → H1 p = none → Q (.ref p) (upd H1 p (.lst (ys.map V.str)))
section
variable {X : Cx}
theorem pe_sortedSet {e : Expr} {te : TE} {p p2 q pos : Pos} (hc : X.calm = true) (hg : Gl X "sorted") (hm : X.mg "sorted" = none) (hg2 : Gl X "set") (hm2 : X.mg "set" = none) (he : PE X e te)
    (hb : ("sorted" : Str) ≠ "__debug__" := by decide)
    (na : starEach [e] X.env = (false, eval e X.env) :: starEach [] X.env := by rfl) : PE X (.Call (.Name "sorted" p) [.Call (.Name "set" p2) [e] [] q] [] pos) (tSortedSet X.K te) := by
  refine ⟨fun pins s σ H Q I h => ?_⟩
  refine Call_ (ld_blt I hg hm (u := .builtin "sorted") (by decide +kernel) ?_)
  refine callWith_builtin1 (args_cons ?_ rfl) rfl rfl
  refine Call_ (ld_blt I hg2 hm2 boot_set ?_)
  refine callWith_type1 (args_cons (thn (he.run pins s σ H _ I h) fun v s1 ⟨x, H1, I1, r1, q1⟩ => args_nil ?_) na) na rfl
  obtain ⟨l, xs, rfl, hq, lim, q1⟩ := q1
  cases r1
  obtain ⟨its, r, pl, _⟩ := I1.list hq
  have sb : (1002 : Nat) < scanBound := by decide
  have sl : (1002 : Nat) ≤ sizeLine := by decide
  refine call_set (I1.ok.hd hc) pl.isList (by simpa using r.strs) (by omega) fun h' tk Y kk => ?_
  refine args_nil ?_
  have J : Inv X pins σ H1 { s1 with heap := h', toks := tk } := I1.kept kk
  have on := once_all xs
  refine call_sorted (s := { s1 with heap := h', toks := tk }) Y (I1.ok.hd hc) (by omega) fun s' p out c ys k g o hp hget ha pm so => ?_
  have hlen : (ys.map V.str).length ≤ sizeLine := by rw [List.length_map, pm.length_eq]; omega
  have hn : H1 p = none := J.hok.fresh hp
  have J2 : Inv X pins σ (upd H1 p (.lst (ys.map V.str))) { ({ s1 with heap := h', toks := tk } : Shared) with heap := s'.heap, gens := s'.gens, drawn := s'.drawn, toks := s'.toks } :=
    J.call (ch := []) (Un.laid k hp hn) (J.hok.laid k hp ⟨hlen, out.toList, c, vals_of_strs ha, hget⟩) (by rw [g]; exact J.bare) (fun _ z => nomatch z)
  have e : s' = { ({ s1 with heap := h', toks := tk } : Shared) with heap := s'.heap, gens := s'.gens, drawn := s'.drawn, toks := s'.toks } := by
    cases s'
    cases s1
    cases o
    rfl
  rw [e]
  exact ⟨.ref p, _, J2, rfl, q1 ys p (pm.nodup_iff.mpr on.1) (fun z => (pm.mem_iff).trans (on.2.1 z)) so hn⟩
end
/-! ### one order alone -/
theorem ltCps_iff : ∀ a b : List Nat, ltCps a b = true ↔ a < b
  | [], [] => by simp [ltCps]
  | [], b :: bs => by simp [ltCps]
  | a :: as, [] => by simp [ltCps]
  | a :: as, b :: bs => by
    rw [ltCps, List.cons_lt_cons_iff, Bool.or_eq_true, Bool.and_eq_true, decide_eq_true_eq, beq_iff_eq, ltCps_iff as bs]
def leS (x y : Str) : Prop := ¬ (y.cps.toList < x.cps.toList)
theorem rising_pw : ∀ (xs : List Str) (p : Str), risingS p xs = true → (∀ x ∈ xs, leS p x) ∧ xs.Pairwise leS
  | [], _, _ => ⟨fun x h => absurd h List.not_mem_nil, List.Pairwise.nil⟩
  | x :: xs, p, h => by
    rw [risingS, Bool.and_eq_true, Bool.not_eq_true'] at h
    have hp : leS p x := fun c => by
      have := (ltCps_iff _ _).mpr c
      rw [h.1] at this
      cases this
    obtain ⟨h1, h2⟩ := rising_pw xs x h.2
    refine ⟨fun y hy => ?_, List.pairwise_cons.mpr ⟨h1, h2⟩⟩
    rcases List.mem_cons.mp hy with rfl | hy
    · exact hp
    · exact List.not_lt.mpr (List.le_trans (List.not_lt.mp hp) (List.not_lt.mp (h1 y hy)))
theorem sorted_pw {xs : List Str} (h : sortedS xs = true) : xs.Pairwise leS := by
  cases xs with
  | nil => exact List.Pairwise.nil
  | cons x xs =>
    obtain ⟨h1, h2⟩ := rising_pw xs x h
    exact List.pairwise_cons.mpr ⟨h1, h2⟩
theorem sorted_one {xs ys : List Str} (hx : sortedS xs = true) (hy : sortedS ys = true) (p : xs.Perm ys) : xs = ys :=
  List.Perm.eq_of_pairwise (le := leS) (fun a b _ _ h1 h2 => by
    have : a.cps.toList = b.cps.toList := List.le_antisymm (List.not_lt.mp h1) (List.not_lt.mp h2)
    cases a
    cases b
    simp only [Str.mk.injEq]
    exact Array.toList_inj.mp this) (sorted_pw hx) (sorted_pw hy) p
/-- lists of the same members, each once -/
theorem perm_same {xs ys : List Str} (h1 : xs.Nodup) (h2 : ys.Nodup) (h : ∀ z, z ∈ xs ↔ z ∈ ys) : xs.Perm ys := by
  refine List.perm_iff_count.mpr fun z => ?_
  rw [h1.count, h2.count]
  by_cases c : z ∈ xs
  · rw [if_pos c, if_pos ((h z).mp c)]
  · rw [if_neg c, if_neg fun d => c ((h z).mpr d)]
end TxS
-- needs lists
namespace Bx
open PySem PySem.Spec PyProof.Rows L2
section
variable {κ : Type} [DecidableEq κ]
/-- the keys as they are met first -/
def fstep (acc : List κ) (k : κ) : List κ := if k ∈ acc then acc else acc ++ [k]
def firsts (ks : List κ) : List κ := ks.foldl fstep []
/-- the place of a key -/
def idxK (l : List κ) (k : κ) : Nat := l.idxOf k
/-- each key by the turn of its first place -/
def numb (ks : List κ) : List Nat := ks.map fun k => idxK (firsts ks) k
theorem firsts_take {ks : List κ} {i : Nat} {k : κ} (h : ks[i]? = some k) : firsts (ks.take (i + 1)) = fstep (firsts (ks.take i)) k := by
  unfold firsts
  rw [List.take_add_one, h, Option.toList_some, List.foldl_append]
  rfl
theorem numb_mem (x : κ) : ∀ (ks acc : List κ), x ∈ acc → x ∈ ks.foldl fstep acc
  | [], _, h => h
  | k :: ks, acc, h => by
    refine numb_mem x ks _ ?_
    unfold fstep
    split
    · exact h
    · exact List.mem_append_left _ h
theorem numb_has (x : κ) : ∀ (ks acc : List κ), x ∈ ks → x ∈ ks.foldl fstep acc
  | k :: ks, acc, h => by
    rcases List.mem_cons.mp h with e | e
    · refine numb_mem x ks _ ?_
      unfold fstep
      rw [← e]
      split
      · assumption
      · exact List.mem_append_right _ (List.mem_singleton.mpr rfl)
    · exact numb_has x ks _ e
theorem firsts_mem {ks : List κ} {k : κ} (h : k ∈ ks) : k ∈ firsts ks := numb_has k ks [] h
theorem numb_len (ks : List κ) : ∀ acc : List κ, (ks.foldl fstep acc).length ≤ acc.length + ks.length := by
  induction ks with
  | nil => exact fun acc => Nat.le_refl _
  | cons k ks ih =>
    intro acc
    have h := ih (fstep acc k)
    have h2 : (fstep acc k).length ≤ acc.length + 1 := by
      unfold fstep
      split
      · omega
      · rw [List.length_append]; exact Nat.le_refl _
    rw [List.foldl_cons, List.length_cons]
    omega
/-- what the dict tells behind some keys -/
structure Told (kvs : List (κ × V)) (acc : List κ) : Prop where
  len : kvs.length = acc.length
  val : ∀ k, valV kvs k = if k ∈ acc then some (.int ((idxK acc k : Nat) : Int)) else none
theorem Told.nil : Told ([] : List (κ × V)) [] := ⟨rfl, fun k => by rw [if_neg (List.not_mem_nil)]; rfl⟩
theorem Told.push {kvs : List (κ × V)} {acc : List κ} {k : κ} (h : Told kvs acc) (hk : k ∉ acc) : Told (putK kvs k (.int ((kvs.length : Nat) : Int))) (acc ++ [k]) := by
  have e : valV kvs k = none := by rw [h.val, if_neg hk]
  refine ⟨?_, fun j => ?_⟩
  · rw [putK_new _ e, List.length_append, List.length_append, h.len]
    rfl
  · rw [valV_put, h.val]
    unfold idxK
    by_cases c : j = k
    · subst c
      rw [if_pos rfl, if_pos (List.mem_append_right _ (List.mem_singleton.mpr rfl)), List.idxOf_append, if_neg hk, h.len]
      have : List.idxOf j [j] = 0 := by simp
      rw [this, Nat.zero_add]
    · rw [if_neg c]
      by_cases m : j ∈ acc
      · rw [if_pos m, if_pos (List.mem_append_left _ m), List.idxOf_append, if_pos m]
      · rw [if_neg m, if_neg (fun z => by rcases List.mem_append.mp z with z | z; exact m z; exact c (List.mem_singleton.mp z))]
end
end Bx
-- needs numb
/-! numbering by first places: it depends on the pattern alone; finer patterns have more first places -/
namespace Bx
open PySem PySem.Spec PyProof.Rows L2
section
variable {κ : Type} [DecidableEq κ] {ι : Type} [DecidableEq ι]
def isFirst (g : Nat → κ) (n : Nat) : Bool := (List.range n).all fun p => decide (g p ≠ g n)
def fpos (g : Nat → κ) (N : Nat) : List Nat := (List.range N).filter (isFirst g)
theorem isFirst_iff {g : Nat → κ} {n : Nat} : isFirst g n = true ↔ ∀ p, p < n → g p ≠ g n := by
  unfold isFirst
  rw [List.all_eq_true]
  exact ⟨fun h p hp => of_decide_eq_true (h p (List.mem_range.mpr hp)), fun h p hp => decide_eq_true (h p (List.mem_range.mp hp))⟩
/-- each place has a first place of its kind -/
theorem first_of (g : Nat → κ) : ∀ n, ∃ p, p ≤ n ∧ g p = g n ∧ isFirst g p = true := by
  intro n
  induction n using Nat.strongRecOn with
  | ind n ih =>
    by_cases h : isFirst g n = true
    · exact ⟨n, Nat.le_refl n, rfl, h⟩
    · have : ∃ p, p < n ∧ g p = g n := by
        apply Classical.byContradiction
        intro z
        exact h (isFirst_iff.mpr fun p hp e => z ⟨p, hp, e⟩)
      obtain ⟨p, hp, e⟩ := this
      obtain ⟨q, h1, h2, h3⟩ := ih p hp
      exact ⟨q, by omega, h2.trans e, h3⟩
theorem first_uniq {g : Nat → κ} {p q : Nat} (hp : isFirst g p = true) (hq : isFirst g q = true) (e : g p = g q) : p = q := by
  rcases Nat.lt_trichotomy p q with h | h | h
  · exact absurd e (isFirst_iff.mp hq p h)
  · exact h
  · exact absurd e.symm (isFirst_iff.mp hp q h)
theorem firsts_snoc (ks : List κ) (k : κ) : firsts (ks ++ [k]) = fstep (firsts ks) k := by
  unfold firsts
  rw [List.foldl_append]
  rfl
theorem firsts_fpos (g : Nat → κ) : ∀ N, firsts ((List.range N).map g) = (fpos g N).map g
  | 0 => rfl
  | N + 1 => by
    have ih := firsts_fpos g N
    rw [List.range_succ, List.map_append, List.map_cons, List.map_nil, firsts_snoc, ih]
    unfold fpos
    rw [List.range_succ, List.filter_append]
    unfold fstep
    by_cases h : isFirst g N = true
    · rw [if_neg, List.filter_cons_of_pos h, List.map_append]
      · rfl
      · intro z
        obtain ⟨p, hp, e⟩ := List.mem_map.mp z
        have hp := (List.mem_filter.mp hp).1
        exact isFirst_iff.mp h p (List.mem_range.mp hp) e
    · rw [if_pos, List.filter_cons_of_neg h]
      · rw [List.filter_nil, List.append_nil]
      · obtain ⟨p, h1, h2, h3⟩ := first_of g N
        have hne : p ≠ N := fun z => h (z ▸ h3)
        exact List.mem_map.mpr ⟨p, List.mem_filter.mpr ⟨List.mem_range.mpr (by omega), h3⟩, h2⟩
/-- the number of a place -/
def pat (g : Nat → κ) (N i : Nat) : Nat := idxK ((fpos g N).map g) (g i)
theorem numb_pat (g : Nat → κ) (N : Nat) : numb ((List.range N).map g) = (List.range N).map (pat g N) := by
  unfold numb
  rw [List.map_map, firsts_fpos]
  rfl
theorem isFirst_congr {g : Nat → κ} {g' : Nat → ι} {N : Nat} (h : ∀ i j, i < N → j < N → (g i = g j ↔ g' i = g' j)) {n : Nat} (hn : n < N) : isFirst g n = isFirst g' n := by
  rw [Bool.eq_iff_iff, isFirst_iff, isFirst_iff]
  exact ⟨fun z p hp e => z p hp ((h p n (by omega) hn).mpr e), fun z p hp e => z p hp ((h p n (by omega) hn).mp e)⟩
theorem fpos_congr {g : Nat → κ} {g' : Nat → ι} {N : Nat} (h : ∀ i j, i < N → j < N → (g i = g j ↔ g' i = g' j)) : fpos g N = fpos g' N := by
  unfold fpos
  exact List.filter_congr fun n hn => isFirst_congr h (List.mem_range.mp hn)
theorem idx_congr {g : Nat → κ} {g' : Nat → ι} {i : Nat} : ∀ (l : List Nat), (∀ p ∈ l, (g p = g i ↔ g' p = g' i)) → idxK (l.map g) (g i) = idxK (l.map g') (g' i)
  | [], _ => rfl
  | p :: l, h => by
    have ih := idx_congr l fun q hq => h q (List.mem_cons_of_mem _ hq)
    unfold idxK at ih ⊢
    rw [List.map_cons, List.map_cons, List.idxOf_cons, List.idxOf_cons, ih]
    have hp := h p List.mem_cons_self
    by_cases c : g p = g i
    · rw [beq_iff_eq.mpr c, beq_iff_eq.mpr (hp.mp c)]
    · rw [beq_eq_false_iff_ne.mpr c, beq_eq_false_iff_ne.mpr fun z => c (hp.mpr z)]
theorem pat_congr {g : Nat → κ} {g' : Nat → ι} {N i : Nat} (h : ∀ i j, i < N → j < N → (g i = g j ↔ g' i = g' j)) (hi : i < N) : pat g N i = pat g' N i := by
  unfold pat
  rw [← fpos_congr h]
  exact idx_congr _ fun p hp => h p i (List.mem_range.mp (List.mem_filter.mp hp).1) hi
theorem pat_mem {g : Nat → κ} {N i : Nat} (hi : i < N) : g i ∈ (fpos g N).map g := by
  obtain ⟨p, h1, h2, h3⟩ := first_of g i
  exact List.mem_map.mpr ⟨p, List.mem_filter.mpr ⟨List.mem_range.mpr (by omega), h3⟩, h2⟩
theorem pat_lt {g : Nat → κ} {N i : Nat} (hi : i < N) : pat g N i < (fpos g N).length := by
  unfold pat idxK
  have := List.idxOf_lt_length_of_mem (pat_mem (g := g) hi)
  rw [List.length_map] at this
  exact this
theorem pat_eq_iff {g : Nat → κ} {N i j : Nat} (hi : i < N) (hj : j < N) : pat g N i = pat g N j ↔ g i = g j := by
  refine ⟨fun e => ?_, fun e => by unfold pat; rw [e]⟩
  have h1 := List.idxOf_lt_length_of_mem (pat_mem (g := g) hi)
  have h2 := List.idxOf_lt_length_of_mem (pat_mem (g := g) hj)
  have e1 := List.getElem_idxOf h1
  have e2 := List.getElem_idxOf h2
  unfold pat idxK at e
  rw [← e1, ← e2]
  congr 1
theorem pat_pat {g : Nat → κ} {N i : Nat} (hi : i < N) : pat (pat g N) N i = pat g N i := pat_congr (fun _ _ h1 h2 => pat_eq_iff h1 h2) hi
theorem fpos_le (g : Nat → κ) (N : Nat) : (fpos g N).length ≤ N := by
  unfold fpos
  have := List.length_filter_le (isFirst g) (List.range N)
  rw [List.length_range] at this
  exact this
theorem filter_sub {p q : Nat → Bool} : ∀ (l : List Nat), (∀ x ∈ l, p x = true → q x = true) → (l.filter p).length ≤ (l.filter q).length ∧ ((l.filter p).length = (l.filter q).length → ∀ x ∈ l, q x = true → p x = true)
  | [], _ => ⟨Nat.le_refl _, fun _ x hx => by cases hx⟩
  | a :: l, h => by
    have ih := filter_sub l fun x hx => h x (List.mem_cons_of_mem _ hx)
    by_cases hp : p a = true
    · have hq := h a List.mem_cons_self hp
      rw [List.filter_cons_of_pos hp, List.filter_cons_of_pos hq, List.length_cons, List.length_cons]
      refine ⟨Nat.succ_le_succ ih.1, fun e x hx hqx => ?_⟩
      rcases List.mem_cons.mp hx with z | z
      · rw [z]; exact hp
      · exact ih.2 (by omega) x z hqx
    · rw [List.filter_cons_of_neg hp]
      by_cases hq : q a = true
      · rw [List.filter_cons_of_pos hq, List.length_cons]
        exact ⟨by omega, fun e => by omega⟩
      · rw [List.filter_cons_of_neg hq]
        refine ⟨ih.1, fun e x hx hqx => ?_⟩
        rcases List.mem_cons.mp hx with z | z
        · rw [z] at hqx; exact absurd hqx hq
        · exact ih.2 e x z hqx
/-- a finer pattern has more first places, or it is the same -/
theorem finer_more {f : Nat → ι} {F : Nat → κ} {N : Nat} (h : ∀ i j, i < N → j < N → F i = F j → f i = f j) :
    (fpos f N).length ≤ (fpos F N).length ∧ ((fpos f N).length = (fpos F N).length → ∀ i j, i < N → j < N → f i = f j → F i = F j) := by
  have hs : ∀ x ∈ List.range N, isFirst f x = true → isFirst F x = true := fun x hx hf => isFirst_iff.mpr fun p hp e => isFirst_iff.mp hf p hp (h p x (by have := List.mem_range.mp hx; omega) (List.mem_range.mp hx) e)
  have fs := filter_sub (List.range N) hs
  refine ⟨fs.1, fun e i j hi hj hf => ?_⟩
  have back := fs.2 e
  obtain ⟨p, p1, p2, p3⟩ := first_of F i
  obtain ⟨q, q1, q2, q3⟩ := first_of F j
  have hp : isFirst f p = true := back p (List.mem_range.mpr (by omega)) p3
  have hq : isFirst f q = true := back q (List.mem_range.mpr (by omega)) q3
  have ep : f p = f i := h p i (by omega) hi p2
  have eq' : f q = f j := h q j (by omega) hj q2
  have epq : p = q := first_uniq hp hq (by rw [ep, eq', hf])
  rw [← p2, ← q2, epq]
/-- a turn of classes_of: the same, or more classes -/
theorem turn_more {f : Nat → Nat} {F : Nat → κ} {N : Nat} (h : ∀ i j, i < N → j < N → F i = F j → f i = f j) (hf : ∀ i, i < N → pat f N i = f i) (ne : ¬ ∀ i, i < N → pat F N i = f i) :
    (fpos f N).length < (fpos (pat F N) N).length := by
  have m := finer_more h
  have e : fpos (pat F N) N = fpos F N := fpos_congr fun i j hi hj => pat_eq_iff hi hj
  rw [e]
  rcases Nat.lt_or_eq_of_le m.1 with z | z
  · exact z
  · exfalso
    refine ne fun i hi => ?_
    rw [← hf i hi]
    exact pat_congr (fun a b ha hb => ⟨h a b ha hb, m.2 z a b ha hb⟩) hi
end
end Bx
-- needs tables classes
/-! spots that tell the same words apart: the classes of a table -/
namespace Bx
open PySem PySem.Spec PyProof.Rows L2
/-- the spot behind a word -/
def goW (t : Tb) (w : List Bool) (s : Nat) : Nat := w.foldl (fun s b => goT t s b) s
def lang (t : Tb) (i j : Nat) : Prop := ∀ w : List Bool, goodT t (goW t w i) = goodT t (goW t w j)
theorem lang_refl (t : Tb) (i : Nat) : lang t i i := fun _ => rfl
theorem lang_symm {t : Tb} {i j : Nat} (h : lang t i j) : lang t j i := fun w => (h w).symm
theorem lang_trans {t : Tb} {i j k : Nat} (h : lang t i j) (h2 : lang t j k) : lang t i k := fun w => (h w).trans (h2 w)
theorem lang_good {t : Tb} {i j : Nat} (h : lang t i j) : goodT t i = goodT t j := h []
theorem lang_go {t : Tb} {i j : Nat} (h : lang t i j) (b : Bool) : lang t (goT t i b) (goT t j b) := fun w => h (b :: w)
/-- the classes: same class exactly if the same words, numbered as they are met -/
structure Cls (t : Tb) (f : Nat → Nat) : Prop where
  eq : ∀ i j, i < t.rows.length → j < t.rows.length → (f i = f j ↔ lang t i j)
  pt : ∀ i, i < t.rows.length → pat f t.rows.length i = f i
theorem Cls.lt {t : Tb} {f : Nat → Nat} (h : Cls t f) {i : Nat} (hi : i < t.rows.length) : f i < t.rows.length := by
  have h1 := pat_lt (g := f) hi
  have h2 := fpos_le f t.rows.length
  rw [h.pt i hi] at h1
  omega
theorem Cls.good {t : Tb} {f : Nat → Nat} (h : Cls t f) {i j : Nat} (hi : i < t.rows.length) (hj : j < t.rows.length) (e : f i = f j) : goodT t i = goodT t j := lang_good ((h.eq i j hi hj).mp e)
theorem Cls.go {t : Tb} {f : Nat → Nat} (h : Cls t f) (ok : Tok t) {i j : Nat} (hi : i < t.rows.length) (hj : j < t.rows.length) (e : f i = f j) (b : Bool) : f (goT t i b) = f (goT t j b) :=
  (h.eq _ _ (goT_lt ok hi b) (goT_lt ok hj b)).mpr (lang_go ((h.eq i j hi hj).mp e) b)
/-- the key of a row for a finer partition -/
def keyF (t : Tb) (f : Nat → Nat) (i : Nat) : List Key := [.inl ((f i : Nat) : Int), .inl ((f (goT t i true) : Nat) : Int), .inl ((f (goT t i false) : Nat) : Int)]
theorem keyF_iff {t : Tb} {f : Nat → Nat} {i j : Nat} : keyF t f i = keyF t f j ↔ f i = f j ∧ f (goT t i true) = f (goT t j true) ∧ f (goT t i false) = f (goT t j false) := by
  unfold keyF
  constructor
  · intro h
    have h1 := List.cons.inj h
    have h2 := List.cons.inj h1.2
    have h3 := List.cons.inj h2.2
    have a1 := Int.ofNat.inj (Sum.inl.inj h1.1)
    have a2 := Int.ofNat.inj (Sum.inl.inj h2.1)
    have a3 := Int.ofNat.inj (Sum.inl.inj h3.1)
    exact ⟨a1, a2, a3⟩
  · rintro ⟨h1, h2, h3⟩
    rw [h1, h2, h3]
/-- what stands at each turn of classes_of -/
structure Part (t : Tb) (f : Nat → Nat) : Prop where
  lg : ∀ i j, i < t.rows.length → j < t.rows.length → lang t i j → f i = f j
  gd : ∀ i j, i < t.rows.length → j < t.rows.length → f i = f j → goodT t i = goodT t j
  pt : ∀ i, i < t.rows.length → pat f t.rows.length i = f i
theorem Part.start (t : Tb) : Part t (pat (goodT t) t.rows.length) where
  lg := fun i j hi hj h => (pat_eq_iff hi hj).mpr (lang_good h)
  gd := fun i j hi hj h => (pat_eq_iff hi hj).mp h
  pt := fun i hi => pat_pat hi
theorem Part.next {t : Tb} {f : Nat → Nat} (ok : Tok t) (h : Part t f) : Part t (pat (keyF t f) t.rows.length) where
  lg := fun i j hi hj l => (pat_eq_iff hi hj).mpr (keyF_iff.mpr ⟨h.lg i j hi hj l, h.lg _ _ (goT_lt ok hi _) (goT_lt ok hj _) (lang_go l _), h.lg _ _ (goT_lt ok hi _) (goT_lt ok hj _) (lang_go l _)⟩)
  gd := fun i j hi hj e => h.gd i j hi hj (keyF_iff.mp ((pat_eq_iff hi hj).mp e)).1
  pt := fun i hi => pat_pat hi
theorem Part.more {t : Tb} {f : Nat → Nat} (h : Part t f) (ne : ¬ ∀ i, i < t.rows.length → pat (keyF t f) t.rows.length i = f i) :
    (fpos f t.rows.length).length < (fpos (pat (keyF t f) t.rows.length) t.rows.length).length :=
  turn_more (fun _ _ _ _ e => (keyF_iff.mp e).1) h.pt ne
theorem Part.done {t : Tb} {f : Nat → Nat} (ok : Tok t) (h : Part t f) (e : ∀ i, i < t.rows.length → pat (keyF t f) t.rows.length i = f i) : Cls t f := by
  refine ⟨fun i j hi hj => ⟨fun c w => ?_, h.lg i j hi hj⟩, h.pt⟩
  have st : ∀ i j, i < t.rows.length → j < t.rows.length → f i = f j → ∀ b, f (goT t i b) = f (goT t j b) := fun i j hi hj c b => by
    have c2 : pat (keyF t f) t.rows.length i = pat (keyF t f) t.rows.length j := by rw [e i hi, e j hj, c]
    have c3 := keyF_iff.mp ((pat_eq_iff hi hj).mp c2)
    cases b
    · exact c3.2.2
    · exact c3.2.1
  revert i j
  induction w with
  | nil => exact fun i j hi hj c => h.gd i j hi hj c
  | cons b w ih => exact fun i j hi hj c => ih (goT t i b) (goT t j b) (goT_lt ok hi b) (goT_lt ok hj b) (st i j hi hj c b)
end Bx
-- needs clsops
-- imports HandS.OwnEq
/-! o in [None, (..), [..]] by o's own __eq__, which says no to each of them -/
namespace Bx
open PySem PySem.Spec PyProof.Rows L2
section
variable {prog : Program} {w : World} {A : Around} {E : Value → Shared → Prop} {s : Shared} {K : PySem.W.Frag} {x C f : Addr} {ox : Obj} {od : Option Obj} {y : Value} {T id : String}
/-- y == x: y's own type declines, x's own __eq__ says no -/
theorem rc_turned {Q : Value → Shared → Prop} (hu : A.units < cLine) (X : K.In s.heap) (I : PySem.W.InstAt s.heap x ox C od) (hy : s.TypeIs y T) (ns : PySem.W.subIn K (.ref C) (.type T) = some false) (slot : Slot T "__eq__" id)
    (hc : ∀ Q' : Value → Shared → Prop, Q' .notImplemented s → wpAny (model prog w) A (call (.builtin id) [y, .ref x]) Q' E s)
    (hs : PySem.W.findIn K (.ref C) "__eq__" = some (some (.ref f))) (hf : PySem.W.isFn K (.ref f) = true)
    (h : wpAny (model prog w) A (call (.ref f) [.ref x, y]) (fun v s' => v = .bool false ∧ Q v s') E s) : wpAny (model prog w) A (richCompare .Eq y (.ref x)) Q E s := by
  have back : wpAny (model prog w) A (tryCompare (.ref x) "__eq__" y) (fun r s' => r = some (.bool false) ∧ Q (.bool false) s') E s := by
    unfold tryCompare
    refine wpAny_bind (PySem.W.ifBound_K X I hs hf (wpAny_mono h (fun v s' hv => ?_) fun _ _ e => e))
    obtain ⟨rfl, q⟩ := hv
    exact wpAny_pure ⟨rfl, q⟩
  have e1 : cmpInfo .Eq = ("==", ("__eq__" : Str), ("__eq__" : Str)) := rfl
  have ne : (Value.type T != Value.ref C) = true := rfl
  simp only [richCompare, e1, hy.oneThing_none]
  refine wpAny_holding (wpAny_bind (wpAny_cRoomFor hu ?_))
  refine wpAny_bind (wpAny_typeOf hy (wpAny_bind (I.type.here ?_)))
  simp only [ne, if_true]
  refine wpAny_bind ((PySem.W.looks_subIn X ns).here ?_)
  simp only [Bool.false_eq_true, if_false, Bool.not_false, if_true]
  refine wpAny_bind (m := tryCompare y _ (.ref x)) (wpAny_tryCompare_declines hy slot (hc _ ⟨rfl, ?_⟩))
  refine wpAny_bind (wpAny_mono back (fun r s' z => ?_) fun _ _ e => e)
  obtain ⟨rfl, q⟩ := z
  exact wpAny_pure q
theorem none_says (l : Addr) : Gives (Builtin.«NoneType.__eq__» ⟨[.none, .ref l], []⟩) (.val (Value.notImplemented)) := SeqAt.NoneType___eq___none_ref_0 l
theorem list_says {l : Addr} {items : Array Value} {n : Nat} {dd : Option Addr} {sl : Array (Option Value)} (X : K.In s.heap) (I : PySem.W.InstAt s.heap x ox C od) (hl : s.heap.get? l = some { cls := .type "list", dict := dd, data := .seq items n, slots := sl })
    (ns : PySem.W.subIn K (.ref C) (.type "list") = some false) {Q' : Value → Shared → Prop} (q : Q' .notImplemented s) : wpAny (model prog w) A (call (.builtin "list.__eq__") [.ref l, .ref x]) Q' E s := by
  refine GQ.call_here F.slot_list_eq ⟨_, hl, rfl⟩ F.entry_list_eq (F.args_list_eq_2 _ _) ?_
  obtain ⟨hp, g, d, tk, os⟩ := s
  wp_walk using AutoSeq1.wpAny_loadPart' hl
  refine wpAny_loadPart_at I.at_ (wpAny_pure ?_)
  rw [I.cls]
  refine (PySem.W.looks_subIn X ns).here ?_
  wp_walk
  exact q
theorem tup_says {l : Addr} {items : Array Value} {n : Nat} {dd : Option Addr} {sl : Array (Option Value)} (X : K.In s.heap) (I : PySem.W.InstAt s.heap x ox C od) (hl : s.heap.get? l = some { cls := .type "tuple", dict := dd, data := .seq items n, slots := sl })
    (ns : PySem.W.subIn K (.ref C) (.type "tuple") = some false) {Q' : Value → Shared → Prop} (q : Q' .notImplemented s) : wpAny (model prog w) A (call (.builtin "tuple.__eq__") [.ref l, .ref x]) Q' E s := by
  refine GQ.call_here F.slot_tuple_eq ⟨_, hl, rfl⟩ F.entry_tuple_eq (F.args_tuple_eq_2 _ _) ?_
  obtain ⟨hp, g, d, tk, os⟩ := s
  wp_walk using AutoSeq1.wpAny_loadPart' hl
  refine wpAny_loadPart_at I.at_ (wpAny_pure ?_)
  rw [I.cls]
  refine (PySem.W.looks_subIn X ns).here ?_
  wp_walk
  exact q
/-- the walk of the list: each turn says no -/
theorem has_loop {R : Result → Shared → Prop} (l : Addr) (x : Value) (N : Nat) (I : Nat → Shared → Prop)
    (hl : ∀ i s, I i s → ∃ items : Array Value, s.heap.IsList l items ∧ items.size = N ∧ ∀ h1 : i < items.size, wpAny (model prog w) A.in1 (eqBool items[i] x) (fun r s' => r = false ∧ I (i + 1) s') (fun e s' => R (.error e) s') s)
    (fin : ∀ s, I N s → R (.ok (.ret (.bool false))) s) (k : Nat) : ∀ i : Nat, N - i = k → i ≤ N → ∀ s, I i s →
      wpAny (model prog w) A.in1 (Builtin.«list.__contains__.loop» ⟨[.ref l, x, rawInt i], []⟩) (GQ.FinOf prog w A R) (fun e s' => R (.error e) s') s := by
  induction k with
  | zero =>
    intro i hk hi s h
    obtain ⟨items, hl0, hs1, _⟩ := hl _ _ h
    obtain ⟨⟨cls, dd, data, sl⟩, hl1, hc1, n, hd1⟩ := hl0
    simp only at hc1 hd1
    subst hc1 hd1
    obtain rfl : i = N := by omega
    have q := fin s h
    obtain ⟨hp, g, d, tk, os⟩ := s
    wp_walk using AutoSeq1.wpAny_loadPart' hl1
    have no : items[((i : Nat) : Int).toNat]? = none := by simp; omega
    rw [no]
    wp_walk
    exact q
  | succ k ih =>
    intro i hk hi s h
    obtain ⟨items, hl0, hs1, turn⟩ := hl _ _ h
    obtain ⟨⟨cls, dd, data, sl⟩, hl1, hc1, n, hd1⟩ := hl0
    simp only at hc1 hd1
    subst hc1 hd1
    have lt : i < items.size := by omega
    have ht := turn lt
    obtain ⟨hp, g, d, tk, os⟩ := s
    wp_walk using AutoSeq1.wpAny_loadPart' hl1
    have so : items[((i : Nat) : Int).toNat]? = some items[i] := by simp [lt]
    have hc : ((i : Int) + 1) = ((i + 1 : Nat) : Int) := by omega
    rw [so]
    refine wpAny_bind (wpAny_mono ht (fun r s2 h2 => ?_) fun _ _ z => z)
    obtain ⟨hr, h2⟩ := h2
    subst hr
    have again_ := ih (i + 1) (by omega) (by omega) s2 h2
    obtain ⟨hp2, g2, d2, tk2, os2⟩ := s2
    wp_walk
    rw [hc]
    exact ⟨plainId_quiet MeetsSeq.plain_contains_loop _, codeAny_builtin MeetsSeq.entry_contains_loop (by
      rw [Around.under_plainId MeetsSeq.plain_contains_loop _]
      exact again_)⟩
theorem eqBool_none {b : Addr} {Q : Bool → Shared → Prop} (h : wpAny (model prog w) A (richCompare .Eq .none (.ref b)) (fun v s' => ∃ r, v = .bool r ∧ Q r s') E s) : wpAny (model prog w) A (eqBool .none (.ref b)) Q E s := by
  unfold eqBool
  refine wpAny_holding ?_
  refine wpAny_ite_split (fun hab => absurd (eq_of_beq hab) nofun) (fun _ => ?_)
  refine wpAny_bind (wpAny_mono h (fun v s' hv => ?_) fun _ _ z => z)
  obtain ⟨r, rfl, q⟩ := hv
  exact wpAny_truthy_bool q
end
section
variable {X : Cx} {CX : CXT} {k : Nat} {C f : Addr} {sp : Sp} {E : XK} {ps : List Str}
/-- what the list may hold -/
def OthV (K : PySem.W.Frag) (H : Hp) (z : V) : Prop := z = .non ∨ (∃ b ys, z = .ref b ∧ H b = some (.lst ys)) ∨ ∃ b ys, z = .ref b ∧ SqT K H b ys
/-- the class is no kin of None, lists, tuples -/
structure NoKin (K : PySem.W.Frag) (C : Addr) : Prop where
  s1 : PySem.W.subIn K (.ref C) (.type "NoneType") = some false
  s2 : PySem.W.subIn K (.ref C) (.type "list") = some false
  s3 : PySem.W.subIn K (.ref C) (.type "tuple") = some false
  k1 : PySem.W.kitOne K (.type "NoneType") (.ref C) = some false
  k2 : PySem.W.kitOne K (.type "list") (.ref C) = some false
  k3 : PySem.W.kitOne K (.type "tuple") (.ref C) = some false
def noKinB (K : PySem.W.Frag) (C : Addr) : Bool := decide (PySem.W.subIn K (.ref C) (.type "NoneType") = some false) && (decide (PySem.W.subIn K (.ref C) (.type "list") = some false) && (decide (PySem.W.subIn K (.ref C) (.type "tuple") = some false) &&
  (decide (PySem.W.kitOne K (.type "NoneType") (.ref C) = some false) && (decide (PySem.W.kitOne K (.type "list") (.ref C) = some false) && decide (PySem.W.kitOne K (.type "tuple") (.ref C) = some false)))))
theorem noKinB_ok {K : PySem.W.Frag} {C : Addr} (h : noKinB K C = true) : NoKin K C := by
  obtain ⟨h1, h⟩ := He.ba h
  obtain ⟨h2, h⟩ := He.ba h
  obtain ⟨h3, h⟩ := He.ba h
  obtain ⟨h4, h⟩ := He.ba h
  obtain ⟨h5, h6⟩ := He.ba h
  exact ⟨of_decide_eq_true h1, of_decide_eq_true h2, of_decide_eq_true h3, of_decide_eq_true h4, of_decide_eq_true h5, of_decide_eq_true h6⟩
/-- isinstance(z, C) is no -/
theorem isi_no {K : PySem.W.Frag} {H : Hp} {C : Addr} {z : V} {Q : VK} (nk : NoKin K C) (h : OthV K H z) (q : Q (.bl false) H) : rIsi K [z, .ref C] H Q := by
  rcases h with rfl | ⟨b, ys, rfl, hb⟩ | ⟨b, ys, rfl, hb⟩
  · exact ⟨_, _, _, _, false, rfl, .own C, .base .non, nk.k1, q⟩
  · exact ⟨_, _, _, _, false, rfl, .own C, .base (.lst hb), nk.k2, q⟩
  · exact ⟨_, _, _, _, false, rfl, .own C, tyT hb, nk.k3, q⟩
def rInOwn (K : PySem.W.Frag) (C : Addr) (sp : Sp) (E : XK) : R2 := fun x y H Q => ∃ a p xs, x = .ref a ∧ y = .ref p ∧ InsAt C H a ∧ H p = some (.lst xs) ∧ (∀ z ∈ xs, OthV K H z ∧ sp [.ref a, z] H (fun v H' => v = .bl false ∧ H' = H) E) ∧ Q (.bl false) H
theorem sub_run {A : Around} {pins : List (Addr × Obj)} {σ : L2.St} {H : Hp} {s : Shared} {us : List Value} {vs : List V} {Q : VK} (F : FnR X.prog X.w X.K X.mg X.base CX k f sp) (sb : L2.Sub X k A) (hx : Passes CX X E) (I : L2.Inv X pins σ H s) (r : Vals vs us) (h : sp vs H Q E) :
    wpAny (model X.prog X.w) A (call (.ref f) us) (EP X pins σ Q) X.xe s := by
  have e0 : Env0 X.prog X.w X.K X.mg X.base A X.stack s H := by
    have e := I.env0
    exact ⟨by rw [sb.fr]; exact e.frames, e.mod, e.bs, e.bsz, e.funs, e.frf, e.hok, e.bare⟩
  refine wpAny_call (codeAny_mono (F A X.stack s H us vs Q E sb.room e0 r h) fun res s' hq => ?_)
  cases res with
  | error e => exact hx pins σ H s e s' I hq
  | ok fl =>
    cases fl with
    | ret u => exact I.after hq
    | next => exact False.elim hq
    | brk => exact False.elim hq
    | cont => exact False.elim hq
theorem op_inOwn (hs : Meth X.K C "__eq__" f) (nk : NoKin X.K C) (G : FnR X.prog X.w X.K X.mg X.base CX k f sp) (hr : Room (k + 1) X.A) (hx : Passes CX X E) : OpR X (compareOp .In) (rInOwn X.K C sp E) := by
  intro pins s σ H x y v u Q I rx ry h
  obtain ⟨a, p, xs, rfl, rfl, ⟨dx, fs, ha⟩, hp, hz, q⟩ := h
  obtain rfl : v = Value.ref a := rx
  obtain rfl : u = Value.ref p := ry
  have sb : L2.Sub X k X.A.in1 := L2.Sub.in1 ⟨hr, rfl⟩
  have hu : X.A.in1.units < cLine := sb.room.units0
  obtain ⟨its0, r0, pl0, _⟩ := I.list (SqL.of hp)
  obtain ⟨o0, e0, c0, n0, d0⟩ := pl0.isList
  show wpAny _ X.A (do return Value.bool (← contains (.ref p) (.ref a))) (EP X pins σ Q) X.xe s
  refine wpAny_bind (wpAny_contains_slot ⟨_, e0, c0⟩ F.slot_list_contains (wpAny_mono (Q := fun v s' => v = .bool false ∧ EP X pins σ Q (.bool false) s') (GQ.call_here F.slot_list_contains ⟨_, e0, c0⟩ F.entry_list_contains (F.args_list_contains_2 _ _) ?_) (fun v s' hv => ?_) fun _ _ e => e))
  rotate_left
  · obtain ⟨rfl, hq⟩ := hv
    exact wpAny_truthy_bool (wpAny_pure hq)
  have lp := has_loop (prog := X.prog) (w := X.w) (A := X.A) (R := wants (fun v s' => v = .bool false ∧ EP X pins σ Q (.bool false) s') X.xe) p (.ref a) xs.length (fun _ s' => L2.Inv X pins σ H s') (fun i s' J => ?_) (fun s' J => ⟨rfl, .bl false, H, J, rfl, q⟩) _ 0 rfl (Nat.zero_le _) s I
  · obtain ⟨hp', g, d, tk, os⟩ := s
    wp_walk
    exact ⟨plainId_quiet MeetsSeq.plain_contains_loop _, codeAny_builtin MeetsSeq.entry_contains_loop (by
      rw [Around.under_plainId MeetsSeq.plain_contains_loop _]
      exact lp)⟩
  obtain ⟨its, r, pl, _⟩ := J.list (SqL.of hp)
  have hsz : its.toArray.size = xs.length := by rw [List.size_toArray, ← r.length]
  refine ⟨its.toArray, pl.isList, hsz, fun h1 => ?_⟩
  obtain ⟨mA, O, _⟩ := ins_get J.hok ha
  obtain ⟨od, Ja, _⟩ := O.look
  have h2 : i < xs.length := hsz ▸ h1
  obtain ⟨u, hu', ru⟩ := r.get (List.getElem?_eq_getElem h2)
  have eu : its.toArray[i] = u := by
    have : its[i]? = some (its.toArray[i]) := by simp at h1; simp [h1]
    rw [hu'] at this
    exact (Option.some.inj this).symm
  rw [eu]
  obtain ⟨oth, hsp⟩ := hz _ (List.getElem_mem h2)
  generalize xs[i] = z at ru oth hsp
  have own : ∀ v', RelV z v' → wpAny (model X.prog X.w) X.A.in1 (call (.ref f) [.ref a, v']) (fun v s' => v = .bool false ∧ ∃ r, v = .bool r ∧ r = false ∧ L2.Inv X pins σ H s') X.xe s' := fun v' rv => by
    refine wpAny_mono (sub_run (us := [.ref a, v']) (vs := [.ref a, z]) G sb hx J (.cons rfl (.cons rv .nil)) hsp) (fun v s2 hv => ?_) fun _ _ e => e
    obtain ⟨y, H2, J2, ry, rfl, rfl⟩ := hv
    obtain rfl : v = Value.bool false := ry
    exact ⟨rfl, false, rfl, rfl, J2⟩
  rcases oth with rfl | ⟨b, ys, rfl, hb⟩ | ⟨b, ys, rfl, hb⟩
  · obtain rfl : u = Value.none := ru
    exact eqBool_none (rc_turned hu J.kIn Ja rfl nk.s1 F.slot_NoneType_eq (fun _ hq => call_gives F.slot_NoneType_eq rfl F.entry_NoneType_eq (F.args_NoneType_eq_2 _ _) (none_says a) hq) hs.at_ hs.fn (own _ rfl))
  · obtain rfl : u = Value.ref b := ru
    have nb : b ≠ a := fun z => by rw [z, ha] at hb; cases hb
    obtain ⟨jt, _, pj, _⟩ := J.list (SqL.of hb)
    obtain ⟨⟨cls, dd, data, sl⟩, ej, cj, nj, dj⟩ := pj.isList
    simp only at cj dj
    subst cj dj
    exact GQ.eqBool_refG nb (rc_turned hu J.kIn Ja ⟨_, ej, rfl⟩ nk.s2 F.slot_list_eq (fun _ hq => list_says J.kIn Ja ej nk.s2 hq) hs.at_ hs.fn (own _ rfl))
  · obtain rfl : u = Value.ref b := ru
    obtain ⟨jt, _, pj, _⟩ := J.tuple hb
    obtain ⟨⟨cls, dd, data, sl⟩, ej, cj, nj, dj⟩ := pj
    simp only at cj dj
    subst cj dj
    have nb : b ≠ a := fun z => by
      have e := Ja.at_
      rw [← z, ej] at e
      have e2 := Ja.cls
      rw [← Option.some.inj e] at e2
      cases e2
    exact GQ.eqBool_refG nb (rc_turned hu J.kIn Ja ⟨_, ej, rfl⟩ nk.s3 F.slot_tuple_eq (fun _ hq => tup_says J.kIn Ja ej nk.s3 hq) hs.at_ hs.fn (own _ rfl))
end
end Bx
-- needs lists
-- imports HandS.DictComp HandS.Walk HandS.Conv
/-! dict comprehensions over any walk; dicts that tell the place of a number -/
namespace Bx
open PySem PySem.Spec PyProof.Rows L2
theorem dc_it {J : It} {n : Nat} {G : Hp → Prop} {Y : Nat → Hp → V → Hp → Prop} (w : Walk J n G Y) {g : TG} {tt : TT} {tk tv : TE} {vs : List Nat} {σ : L2.St} {H1 : Hp} {D : Addr} {Qd : Hp → Prop} (Pv : Nat → Hp → Prop) (h0 : Pv 0 (upd H1 D (.dK []))) (hG : ∀ i H, i ≤ n → Pv i H → G H)
    (hs : ∀ i x H H', i < n → Pv i H → Y i H x H' → g x (wipe σ vs) H' fun σ2 H2 => wipe σ2 vs = wipe σ vs ∧ tt σ2 H2 fun b H3 =>
      if b = true then tk σ2 H3 fun y H4 => tv σ2 H4 fun z H5 => ∃ kvs k, y = kV k ∧ H5 D = some (.dK kvs) ∧ kvs.length < sizeLine ∧ Pv (i + 1) (upd H5 D (.dK (putK kvs k z))) else Pv (i + 1) H3) (hd : ∀ H, Pv n H → Qd H) :
    ∃ W : Nat → Nat → Hp → Prop, (∃ m, W 0 m (upd H1 D (.dK []))) ∧ ∀ i m H, W i m H →
      (J.stop i H ∧ Qd H) ∨ (J.go i H ∧ ∃ Nx : Hp → Prop, (∀ H', Nx H' → ∃ m', m' < m ∧ W (i + 1) m' H') ∧ ∀ x H', J.yld i H x H' → g x (wipe σ vs) H' fun σ2 H2 => wipe σ2 vs = wipe σ vs ∧ tt σ2 H2 fun b H3 =>
        if b = true then tk σ2 H3 fun y H4 => tv σ2 H4 fun z H5 => ∃ kvs k, y = kV k ∧ H5 D = some (.dK kvs) ∧ kvs.length < sizeLine ∧ Nx (upd H5 D (.dK (putK kvs k z))) else Nx H3) := by
  refine ⟨fun i m H => m = n - i ∧ i ≤ n ∧ Pv i H, ⟨n, by simp, Nat.zero_le _, h0⟩, ?_⟩
  rintro i m H ⟨rfl, hi, p⟩
  have q := hG i H hi p
  by_cases hlt : i < n
  · refine .inr ⟨w.goes i H hlt q, Pv (i + 1), fun H' p' => ⟨n - (i + 1), by omega, rfl, hlt, p'⟩, fun x H' y => hs i x H H' hlt p (w.yields i H x H' hlt q y)⟩
  · have e : i = n := by omega
    subst e
    exact .inl ⟨w.stops H q, hd H p⟩
def ki (n : Nat) : Key := .inl (n : Int)
theorem ki_inj {a b : Nat} : ki a = ki b ↔ a = b := ⟨fun h => Int.ofNat.inj (Sum.inl.inj h), fun h => by rw [h]⟩
end Bx
-- needs prod dcit numb
namespace Bx
open PySem PySem.Spec PyProof.Rows L2
def kp (c : Nat × Nat) : List Key := [ki c.1, ki c.2]
theorem kp_inj {a b : Nat × Nat} : kp a = kp b ↔ a = b := ⟨fun h => by
  have h1 := List.cons.inj h
  have h2 := List.cons.inj h1.2
  exact Prod.ext (ki_inj.mp h1.1) (ki_inj.mp h2.1), fun h => by rw [h]⟩
def pairV (c : Nat × Nat) : List V := [.int (c.1 : Int), .int (c.2 : Int)]
section
variable {κ : Type} [DecidableEq κ] {K : Type} [DecidableEq K]
/-- the dict tells each key's place -/
structure ToldG (kf : κ → K) (kvs : List (K × V)) (acc : List κ) : Prop where
  len : kvs.length = acc.length
  val : ∀ c : κ, valV kvs (kf c) = if c ∈ acc then some (.int ((idxK acc c : Nat) : Int)) else none
theorem ToldG.nil {kf : κ → K} : ToldG kf ([] : List (K × V)) [] := ⟨rfl, fun k => by rw [if_neg (List.not_mem_nil)]; rfl⟩
theorem ToldG.push {kf : κ → K} (inj : ∀ a b, kf a = kf b ↔ a = b) {kvs : List (K × V)} {acc : List κ} {k : κ} (h : ToldG kf kvs acc) (hk : k ∉ acc) : ToldG kf (putK kvs (kf k) (.int ((kvs.length : Nat) : Int))) (acc ++ [k]) := by
  have e : valV kvs (kf k) = none := by rw [h.val, if_neg hk]
  refine ⟨?_, fun j => ?_⟩
  · rw [putK_new _ e, List.length_append, List.length_append, h.len]
    rfl
  · rw [valV_put, h.val]
    unfold idxK
    by_cases c : j = k
    · subst c
      rw [if_pos rfl, if_pos (List.mem_append_right _ (List.mem_singleton.mpr rfl)), List.idxOf_append, if_neg hk, h.len]
      have : List.idxOf j [j] = 0 := by simp
      rw [this, Nat.zero_add]
    · rw [if_neg (fun z => c ((inj _ _).mp z))]
      by_cases m : j ∈ acc
      · rw [if_pos m, if_pos (List.mem_append_left _ m), List.idxOf_append, if_pos m]
      · rw [if_neg m, if_neg (fun z => by rcases List.mem_append.mp z with z | z; exact m z; exact c (List.mem_singleton.mp z))]
end
abbrev ToldP (kvs : List (List Key × V)) (acc : List (Nat × Nat)) : Prop := ToldG kp kvs acc
/-- the tuples stay -/
def TupS (H H' : Hp) : Prop := ∀ p xs, H p = some (.tup xs) → H' p = some (.tup xs)
theorem TupS.refl (H : Hp) : TupS H H := fun _ _ h => h
theorem TupS.trans {H H1 H2 : Hp} (a : TupS H H1) (b : TupS H1 H2) : TupS H H2 := fun p xs h => b p xs (a p xs h)
theorem TupS.of {H H' : Hp} (e : Same H H') : TupS H H' := fun _ _ h => e _ _ h
theorem TupS.put {H : Hp} {a : Addr} {o o' : HO} (h : H a = some o) (n : ∀ xs, o ≠ .tup xs) : TupS H (L2.upd H a o') := fun p xs q => by
  have ne : p ≠ a := fun z => by
    rw [z, h] at q
    exact n _ (Option.some.inj q)
  rw [upd_ne ne]
  exact q
/-- a list of pairs -/
def PairsL (H : Hp) (us : List V) (o : List (Nat × Nat)) : Prop := us.length = o.length ∧ ∀ (j : Nat) c, o[j]? = some c → ∃ p, us[j]? = some (.ref p) ∧ H p = some (.tup (pairV c))
theorem PairsL.keep {H H' : Hp} {us : List V} {o : List (Nat × Nat)} (e : TupS H H') (h : PairsL H us o) : PairsL H' us o := ⟨h.1, fun j c hc => by
  obtain ⟨p, h1, h2⟩ := h.2 j c hc
  exact ⟨p, h1, e _ _ h2⟩⟩
theorem PairsL.snoc {H : Hp} {us : List V} {o : List (Nat × Nat)} {p : Addr} {c : Nat × Nat} (h : PairsL H us o) (hp : H p = some (.tup (pairV c))) : PairsL H (us ++ [.ref p]) (o ++ [c]) := by
  refine ⟨by rw [List.length_append, List.length_append, h.1]; rfl, fun j d hd => ?_⟩
  by_cases hj : j < o.length
  · rw [List.getElem?_append_left hj] at hd
    obtain ⟨q, h1, h2⟩ := h.2 j d hd
    exact ⟨q, by rw [List.getElem?_append_left (by rw [h.1]; exact hj)]; exact h1, h2⟩
  · have hl := (List.getElem?_eq_some_iff.mp hd).1
    rw [List.length_append] at hl
    have e : j = o.length := by
      have : j < o.length + 1 := hl
      omega
    subst e
    rw [List.getElem?_append_right (Nat.le_refl _), Nat.sub_self] at hd
    cases hd
    exact ⟨p, by rw [List.getElem?_append_right (by rw [h.1]; exact Nat.le_refl _), h.1, Nat.sub_self]; rfl, hp⟩
theorem PairsL.get {H : Hp} {us : List V} {o : List (Nat × Nat)} (h : PairsL H us o) {j : Nat} {z : V} (hz : us[j]? = some z) : ∃ c p, o[j]? = some c ∧ z = .ref p ∧ H p = some (.tup (pairV c)) := by
  have hj := (List.getElem?_eq_some_iff.mp hz).1
  rw [h.1] at hj
  obtain ⟨p, h1, h2⟩ := h.2 j _ (List.getElem?_eq_getElem hj)
  rw [hz] at h1
  exact ⟨_, p, List.getElem?_eq_getElem hj, Option.some.inj h1, h2⟩
/-- what stands while the pairs of spots are walked: the list at ol, the dict at d2; B knows neither -/
structure WkP (B : Hp) (ol d2 : Addr) (H' : Hp) (o : List (Nat × Nat)) : Prop where
  sm : Same B H'
  ks : ∃ us, H' ol = some (.lst us) ∧ PairsL H' us o
  nm : ∃ kvs, H' d2 = some (.dT kvs) ∧ ToldP kvs o
section
variable {B H' H2 : Hp} {ol d2 rl : Addr} {o : List (Nat × Nat)}
theorem WkP.grow (h : WkP B ol d2 H' o) (e : Same H' H2) : WkP B ol d2 H2 o := by
  obtain ⟨us, h1, h2⟩ := h.ks
  obtain ⟨kvs, h3, h4⟩ := h.nm
  exact ⟨h.sm.trans e, ⟨us, e _ _ h1, h2.keep (.of e)⟩, kvs, e _ _ h3, h4⟩
theorem WkP.put (h : WkP B ol d2 H' o) (hb : B rl = none) (n1 : rl ≠ ol) (n2 : rl ≠ d2) {ws ws' : List V} (hr : H' rl = some (.lst ws)) : WkP B ol d2 (L2.upd H' rl (.lst ws')) o := by
  obtain ⟨us, h1, h2⟩ := h.ks
  obtain ⟨kvs, h3, h4⟩ := h.nm
  exact ⟨same_mut h.sm hb, ⟨us, by rw [upd_ne n1.symm]; exact h1, h2.keep (.put hr fun _ z => by cases z)⟩, kvs, by rw [upd_ne n2.symm]; exact h3, h4⟩
theorem WkP.push (h : WkP B ol d2 H' o) (b1 : B ol = none) (b2 : B d2 = none) (no : ol ≠ d2) {c : Nat × Nat} (hc : c ∉ o) {us : List V} {kvs : List (List Key × V)} (hO : H' ol = some (.lst us)) (hP : PairsL H' us o) (hD : H' d2 = some (.dT kvs)) (hT : ToldP kvs o) {p : Addr} (hp : H' p = some (.tup (pairV c))) :
    WkP B ol d2 (L2.upd (L2.upd H' d2 (.dT (putK kvs (kp c) (.int ((us.length : Nat) : Int))))) ol (.lst (us ++ [.ref p]))) (fstep o c) ∧ TupS H' (L2.upd (L2.upd H' d2 (.dT (putK kvs (kp c) (.int ((us.length : Nat) : Int))))) ol (.lst (us ++ [.ref p]))) := by
  have t1 : TupS H' (L2.upd H' d2 (.dT (putK kvs (kp c) (.int ((us.length : Nat) : Int))))) := .put hD fun _ z => by cases z
  have hO1 : (L2.upd H' d2 (.dT (putK kvs (kp c) (.int ((us.length : Nat) : Int))))) ol = some (.lst us) := by rw [upd_ne no]; exact hO
  have t2 := t1.trans (.put (o' := .lst (us ++ [.ref p])) hO1 fun _ z => by cases z)
  refine ⟨⟨same_mut (same_mut h.sm b2) b1, ⟨_, upd_same, ?_⟩, putK kvs (kp c) (.int ((us.length : Nat) : Int)), ?_, ?_⟩, t2⟩
  · unfold fstep
    rw [if_neg hc]
    exact (hP.keep t2).snoc (t2 _ _ hp)
  · rw [upd_ne no.symm, upd_same]
  · unfold fstep
    rw [if_neg hc, hP.1, ← hT.len]
    exact hT.push (fun a b => kp_inj) hc
theorem WkP.stay (h : WkP B ol d2 H' o) {c : Nat × Nat} (hc : c ∈ o) : WkP B ol d2 H' (fstep o c) := by
  unfold fstep
  rw [if_pos hc]
  exact h
end
end Bx

namespace Lw
open PySem PySem.Spec PyProof.Rows L2 Bx
def top (i : Nat) : Stmt := PySem.Challenge.pw_addpath_k09_programs_and_their_parts.main.body.getD i (.Pass ⟨0, 0, 0, 0⟩)
abbrev s_Program___len__ : Stmt := inClass (top 20) 10
abbrev s_Program___repr__ : Stmt := inClass (top 20) 11
abbrev s_Program_outcomes : Stmt := inClass (top 20) 5
abbrev s_is_name : Stmt := top 15
abbrev s_is_number : Stmt := top 5
abbrev s_is_within : Stmt := top 17
abbrev s_is_one_of : Stmt := top 16
abbrev s_is_test : Stmt := top 18
abbrev s_is_line : Stmt := top 19
abbrev s_Program___init__ : Stmt := inClass (top 20) 1
abbrev s_Program___eq__n : Stmt := inClass (top 20) 9
abbrev s_Program___eq__ : Stmt := inClass (top 20) 9
abbrev s__law_program : Stmt := top 30
abbrev s__law_true : Stmt := top 31
abbrev s__law_rests : Stmt := top 33
abbrev s__law_followers : Stmt := top 34
abbrev s__law_modulus : Stmt := top 32
abbrev s__law_states : Stmt := top 35
abbrev s__law_pull : Stmt := top 24
abbrev s__law_test : Stmt := top 26
abbrev s__law_line : Stmt := top 27
abbrev s__law_drawn : Stmt := top 28
abbrev s__law_lines : Stmt := top 29
abbrev s__law_same : Stmt := top 25
abbrev s_Program_lines : Stmt := inClass (top 20) 4
abbrev s_Program_single : Stmt := inClass (top 20) 7
abbrev s_common_divisor : Stmt := top 6
abbrev s_common_multiple : Stmt := top 7
abbrev s_Program_modulus : Stmt := inClass (top 20) 6
abbrev s__law_bag : Stmt := top 23
abbrev s_law : Stmt := top 36
def d_Program___len__ : He.DefD := ⟨("Program", some "__len__"), "__len__", "Program.__len__", defArgs s_Program___len__, defBody s_Program___len__, defScope s_Program___len__, [], []⟩
def d_Program___repr__ : He.DefD := ⟨("Program", some "__repr__"), "__repr__", "Program.__repr__", defArgs s_Program___repr__, defBody s_Program___repr__, defScope s_Program___repr__, [], []⟩
def d_Program_outcomes : He.DefD := ⟨("Program", some "outcomes"), "outcomes", "Program.outcomes", defArgs s_Program_outcomes, defBody s_Program_outcomes, defScope s_Program_outcomes, [], []⟩
def d_is_name : He.DefD := ⟨("is_name", none), "is_name", "is_name", defArgs s_is_name, defBody s_is_name, defScope s_is_name, [], []⟩
def d_is_number : He.DefD := ⟨("is_number", none), "is_number", "is_number", defArgs s_is_number, defBody s_is_number, defScope s_is_number, [], []⟩
def d_is_within : He.DefD := ⟨("is_within", none), "is_within", "is_within", defArgs s_is_within, defBody s_is_within, defScope s_is_within, [], []⟩
def d_is_one_of : He.DefD := ⟨("is_one_of", none), "is_one_of", "is_one_of", defArgs s_is_one_of, defBody s_is_one_of, defScope s_is_one_of, [], []⟩
def d_is_test : He.DefD := ⟨("is_test", none), "is_test", "is_test", defArgs s_is_test, defBody s_is_test, defScope s_is_test, [], []⟩
def d_is_line : He.DefD := ⟨("is_line", none), "is_line", "is_line", defArgs s_is_line, defBody s_is_line, defScope s_is_line, [], []⟩
def d_Program___init__ : He.DefD := ⟨("Program", some "__init__"), "__init__", "Program.__init__", defArgs s_Program___init__, defBody s_Program___init__, defScope s_Program___init__, [], []⟩
def d_Program___eq__n : He.DefD := ⟨("Program", some "__eq__"), "__eq__", "Program.__eq__", defArgs s_Program___eq__n, defBody s_Program___eq__n, defScope s_Program___eq__n, [], []⟩
def d_Program___eq__ : He.DefD := ⟨("Program", some "__eq__"), "__eq__", "Program.__eq__", defArgs s_Program___eq__, defBody s_Program___eq__, defScope s_Program___eq__, [], []⟩
def d__law_program : He.DefD := ⟨("_law_program", none), "_law_program", "_law_program", defArgs s__law_program, defBody s__law_program, defScope s__law_program, [], []⟩
def d__law_true : He.DefD := ⟨("_law_true", none), "_law_true", "_law_true", defArgs s__law_true, defBody s__law_true, defScope s__law_true, [], []⟩
def d__law_rests : He.DefD := ⟨("_law_rests", none), "_law_rests", "_law_rests", defArgs s__law_rests, defBody s__law_rests, defScope s__law_rests, [], []⟩
def d__law_followers : He.DefD := ⟨("_law_followers", none), "_law_followers", "_law_followers", defArgs s__law_followers, defBody s__law_followers, defScope s__law_followers, [], []⟩
def d__law_modulus : He.DefD := ⟨("_law_modulus", none), "_law_modulus", "_law_modulus", defArgs s__law_modulus, defBody s__law_modulus, defScope s__law_modulus, [], []⟩
def d__law_states : He.DefD := ⟨("_law_states", none), "_law_states", "_law_states", defArgs s__law_states, defBody s__law_states, defScope s__law_states, [], []⟩
def d__law_pull : He.DefD := ⟨("_law_pull", none), "_law_pull", "_law_pull", defArgs s__law_pull, defBody s__law_pull, defScope s__law_pull, [], []⟩
def d__law_test : He.DefD := ⟨("_law_test", none), "_law_test", "_law_test", defArgs s__law_test, defBody s__law_test, defScope s__law_test, [], []⟩
def d__law_line : He.DefD := ⟨("_law_line", none), "_law_line", "_law_line", defArgs s__law_line, defBody s__law_line, defScope s__law_line, [], []⟩
def d__law_drawn : He.DefD := ⟨("_law_drawn", none), "_law_drawn", "_law_drawn", defArgs s__law_drawn, defBody s__law_drawn, defScope s__law_drawn, [], []⟩
def d__law_lines : He.DefD := ⟨("_law_lines", none), "_law_lines", "_law_lines", defArgs s__law_lines, defBody s__law_lines, defScope s__law_lines, [], []⟩
def d__law_same : He.DefD := ⟨("_law_same", none), "_law_same", "_law_same", defArgs s__law_same, defBody s__law_same, defScope s__law_same, [], []⟩
def d_Program_lines : He.DefD := ⟨("Program", some "lines"), "lines", "Program.lines", defArgs s_Program_lines, defBody s_Program_lines, defScope s_Program_lines, [], []⟩
def d_Program_single : He5.DefA := ⟨fun K => (He5.wf K (He.ga K "Program") "property" "single"), "single", "Program.single", defArgs s_Program_single, defBody s_Program_single, defScope s_Program_single, [], []⟩
def d_common_divisor : He.DefD := ⟨("common_divisor", none), "common_divisor", "common_divisor", defArgs s_common_divisor, defBody s_common_divisor, defScope s_common_divisor, [], []⟩
def d_common_multiple : He.DefD := ⟨("common_multiple", none), "common_multiple", "common_multiple", defArgs s_common_multiple, defBody s_common_multiple, defScope s_common_multiple, [], []⟩
def d_Program_modulus : He5.DefA := ⟨fun K => (He5.wf K (He.ga K "Program") "property" "modulus"), "modulus", "Program.modulus", defArgs s_Program_modulus, defBody s_Program_modulus, defScope s_Program_modulus, [], []⟩
def d__law_bag : He.DefD := ⟨("_law_bag", none), "_law_bag", "_law_bag", defArgs s__law_bag, defBody s__law_bag, defScope s__law_bag, [], []⟩
def d_law : He.DefD := ⟨("law", none), "law", "law", defArgs s_law, defBody s_law, defScope s_law, [], []⟩
def fnl : List He.DefD := d_Program___len__ :: d_Program___repr__ :: d_Program_outcomes :: d_is_name :: d_is_number :: d_is_within :: d_is_one_of :: d_is_test :: d_is_line :: d_Program___init__ :: d_Program___eq__n :: d_Program___eq__ :: d__law_program :: d__law_true :: d__law_rests :: d__law_followers :: d__law_modulus :: d__law_states :: d__law_pull :: d__law_test :: d__law_line :: d__law_drawn :: d__law_lines :: d__law_same :: d_Program_lines :: d_common_divisor :: d_common_multiple :: d__law_bag :: d_law :: []
def fna : List He5.DefA := d_Program_single :: d_Program_modulus :: []
def glos : List Str := "is_name" :: "is_number" :: "is_within" :: "is_one_of" :: "is_test" :: "is_line" :: "_law_program" :: "_law_true" :: "_law_rests" :: "_law_followers" :: "_law_modulus" :: "_law_states" :: "_law_pull" :: "_law_test" :: "_law_line" :: "_law_drawn" :: "_law_lines" :: "_law_same" :: "common_divisor" :: "common_multiple" :: "_law_bag" :: "law" :: "Program" :: "ORDERS" :: "VARIABLES" :: "MODULI" :: "AXES" :: []
def frees : List Str := "len" :: "sorted" :: "set" :: "all" :: "isinstance" :: "str" :: "bool" :: "int" :: "tuple" :: "enumerate" :: "list" :: "max" :: "dict" :: "range" :: "zip" :: "repr" :: []
def fmore : List He.Fa := (.cls "Program") :: (.meth "Program" "outcomes") :: (.mkr "Program") :: (.meth "Program" "__eq__") :: (.meth "Program" "lines") :: (.int "MOST_VALUE" (3)) :: (.int "MOST_NAME" (8)) :: (.noat "Program" "rows") :: (.meth "Program" "__len__") :: (.meth "Program" "__repr__") :: []
def fal : List He.Fa := glos.map .glo ++ frees.map .free ++ fmore
def exl : List (PySem.W.Frag → Bool) := (fun K => He.tupB K "ORDERS" [(.str "less"), (.str "equal"), (.str "more")]) :: (fun K => He.tupB K "VARIABLES" [(.str "a"), (.str "b"), (.str "c")]) :: (fun K => He.tupB K "MODULI" [(.int 2), (.int 3)]) :: (fun K => He.tupB K "AXES" [(.str "x"), (.str "y")]) :: (fun K => tupN K "ORDERS") :: (fun K => tupN K "VARIABLES") :: (fun K => tupN K "MODULI") :: (fun K => tupN K "AXES") :: (fun K => creadB K (He.ga K "Program")) :: (fun K => cintB K (He.ga K "Program") "MAX_LINES" (60)) :: (fun K => noKinB K (He.ga K "Program")) :: (fun K => propB K (He.ga K "Program") "single") :: (fun K => propB K (He.ga K "Program") "modulus") :: (fun K => insB K (He.ga K "Program")) :: []
def exf (K : PySem.W.Frag) : Bool := exl.all fun f => f K
abbrev En := Env fal fnl fna exf
theorem En.fx {K : PySem.W.Frag} {mg : Str → Option Value} (E : En K mg) (i : Nat) {f : PySem.W.Frag → Bool} (h : exl[i]? = some f := by rfl) : f K = true := List.all_eq_true.mp E.more f (List.mem_of_getElem? h)
theorem ty_ORDERS {K : PySem.W.Frag} {mg : Str → Option Value} (E : En K mg) (H : Hp) : tyV K "tuple" (.ref (He.ga K "ORDERS")) H := tupN_ok (E.fx 4) H
theorem at_ORDERS {K : PySem.W.Frag} {mg : Str → Option Value} (E : En K mg) (H : Hp) : SqT K H (He.ga K "ORDERS") (([(.str "less"), (.str "equal"), (.str "more")] : List He.Dv).map (He.Dv.v K)) := He.tupB_ok (E.fx 0) H
theorem ty_VARIABLES {K : PySem.W.Frag} {mg : Str → Option Value} (E : En K mg) (H : Hp) : tyV K "tuple" (.ref (He.ga K "VARIABLES")) H := tupN_ok (E.fx 5) H
theorem at_VARIABLES {K : PySem.W.Frag} {mg : Str → Option Value} (E : En K mg) (H : Hp) : SqT K H (He.ga K "VARIABLES") (([(.str "a"), (.str "b"), (.str "c")] : List He.Dv).map (He.Dv.v K)) := He.tupB_ok (E.fx 1) H
theorem ty_MODULI {K : PySem.W.Frag} {mg : Str → Option Value} (E : En K mg) (H : Hp) : tyV K "tuple" (.ref (He.ga K "MODULI")) H := tupN_ok (E.fx 6) H
theorem at_MODULI {K : PySem.W.Frag} {mg : Str → Option Value} (E : En K mg) (H : Hp) : SqT K H (He.ga K "MODULI") (([(.int 2), (.int 3)] : List He.Dv).map (He.Dv.v K)) := He.tupB_ok (E.fx 2) H
theorem ty_AXES {K : PySem.W.Frag} {mg : Str → Option Value} (E : En K mg) (H : Hp) : tyV K "tuple" (.ref (He.ga K "AXES")) H := tupN_ok (E.fx 7) H
theorem at_AXES {K : PySem.W.Frag} {mg : Str → Option Value} (E : En K mg) (H : Hp) : SqT K H (He.ga K "AXES") (([(.str "x"), (.str "y")] : List He.Dv).map (He.Dv.v K)) := He.tupB_ok (E.fx 3) H
theorem in_glos {x : Str} (h : x ∈ glos) : He.Fa.glo x ∈ fal := List.mem_append_left _ (List.mem_append_left _ (List.mem_map_of_mem h))
theorem in_frees {x : Str} (h : x ∈ frees) : He.Fa.free x ∈ fal := List.mem_append_left _ (List.mem_append_right _ (List.mem_map_of_mem h))
theorem En.gl {K : PySem.W.Frag} {mg : Str → Option Value} (E : En K mg) (x : Str) (h : x ∈ glos := by decide +kernel) : mg x = some (.ref (He.ga K x)) := Env.glo E x (in_glos h)
theorem En.fr {K : PySem.W.Frag} {mg : Str → Option Value} (E : En K mg) (x : Str) (h : x ∈ frees := by decide +kernel) : mg x = none := Env.free E x (in_frees h)
theorem En.cls_Program {K : PySem.W.Frag} {mg : Str → Option Value} (E : En K mg) : Cls K (He.ga K "Program") := He.cls_ok (Env.ok E (f := (.cls "Program")) (List.mem_append_right _ (List.mem_of_getElem? (i := 0) rfl)))
theorem En.meth_Program_outcomes {K : PySem.W.Frag} {mg : Str → Option Value} (E : En K mg) : Meth K (He.ga K "Program") "outcomes" (He.ma K (He.ga K "Program") "outcomes") := He.meth_ok (Env.ok E (f := (.meth "Program" "outcomes")) (List.mem_append_right _ (List.mem_of_getElem? (i := 1) rfl)))
theorem En.mkr_Program {K : PySem.W.Frag} {mg : Str → Option Value} (E : En K mg) : Mk K (He.ga K "Program") (He.ma K (He.ga K "Program") "__init__") := He.mkr_ok (Env.ok E (f := (.mkr "Program")) (List.mem_append_right _ (List.mem_of_getElem? (i := 2) rfl)))
theorem En.meth_Program___eq__ {K : PySem.W.Frag} {mg : Str → Option Value} (E : En K mg) : Meth K (He.ga K "Program") "__eq__" (He.ma K (He.ga K "Program") "__eq__") := He.meth_ok (Env.ok E (f := (.meth "Program" "__eq__")) (List.mem_append_right _ (List.mem_of_getElem? (i := 3) rfl)))
theorem En.meth_Program_lines {K : PySem.W.Frag} {mg : Str → Option Value} (E : En K mg) : Meth K (He.ga K "Program") "lines" (He.ma K (He.ga K "Program") "lines") := He.meth_ok (Env.ok E (f := (.meth "Program" "lines")) (List.mem_append_right _ (List.mem_of_getElem? (i := 4) rfl)))
theorem En.int_MOST_VALUE {K : PySem.W.Frag} {mg : Str → Option Value} (E : En K mg) : ∃ t, mg "MOST_VALUE" = some (.int (3) t) := Env.intc E (List.mem_append_right _ (List.mem_of_getElem? (i := 5) rfl))
theorem En.int_MOST_NAME {K : PySem.W.Frag} {mg : Str → Option Value} (E : En K mg) : ∃ t, mg "MOST_NAME" = some (.int (8) t) := Env.intc E (List.mem_append_right _ (List.mem_of_getElem? (i := 6) rfl))
theorem En.noat_Program_rows {K : PySem.W.Frag} {mg : Str → Option Value} (E : En K mg) : NoAttr K (He.ga K "Program") "rows" := He.noat_ok (Env.ok E (f := (.noat "Program" "rows")) (List.mem_append_right _ (List.mem_of_getElem? (i := 7) rfl)))
theorem En.meth_Program___len__ {K : PySem.W.Frag} {mg : Str → Option Value} (E : En K mg) : Meth K (He.ga K "Program") "__len__" (He.ma K (He.ga K "Program") "__len__") := He.meth_ok (Env.ok E (f := (.meth "Program" "__len__")) (List.mem_append_right _ (List.mem_of_getElem? (i := 8) rfl)))
theorem En.meth_Program___repr__ {K : PySem.W.Frag} {mg : Str → Option Value} (E : En K mg) : Meth K (He.ga K "Program") "__repr__" (He.ma K (He.ga K "Program") "__repr__") := He.meth_ok (Env.ok E (f := (.meth "Program" "__repr__")) (List.mem_append_right _ (List.mem_of_getElem? (i := 9) rfl)))
theorem En.cread_Program {K : PySem.W.Frag} {mg : Str → Option Value} (E : En K mg) : ClX.CRead K (He.ga K "Program") (.type "type") := creadB_ok (E.fx 8)
theorem En.cint_Program_MAX_LINES {K : PySem.W.Frag} {mg : Str → Option Value} (E : En K mg) : ∃ t, ClX.CVal K (He.ga K "Program") (.type "type") "MAX_LINES" (.int (60)) (.int (60) t) := cintB_ok (E.fx 9)
theorem En.nokin_Program {K : PySem.W.Frag} {mg : Str → Option Value} (E : En K mg) : NoKin K (He.ga K "Program") := noKinB_ok (E.fx 10)
theorem En.prop_Program_single {K : PySem.W.Frag} {mg : Str → Option Value} (E : En K mg) : PropOf K (He.ga K "Program") "single" (He.ma K (He.ga K "Program") "single") (He5.wf K (He.ga K "Program") "property" "single") := propB_ok (E.fx 11)
theorem En.prop_Program_modulus {K : PySem.W.Frag} {mg : Str → Option Value} (E : En K mg) : PropOf K (He.ga K "Program") "modulus" (He.ma K (He.ga K "Program") "modulus") (He5.wf K (He.ga K "Program") "property" "modulus") := propB_ok (E.fx 12)
theorem En.ins_Program {K : PySem.W.Frag} {mg : Str → Option Value} (E : En K mg) : C8.InsC K (He.ga K "Program") := insB_ok (En.cls_Program E) (E.fx 13)

abbrev Rw : PySem.W.OpenRow := PySem.W.OpenLaw.row PySem.Challenge.rw_addpath_k09_programs_and_their_parts
def AS : List Addr := [3, 6, 4, 21, 31, 53, 62, 69, 76, 77, 78, 79, 80, 85, 92, 99, 106, 113, 201, 212, 219, 226, 231, 238, 245, 252, 259, 266, 273, 280, 287, 292, 297, 302, 0, 20, 30, 52, 61, 68, 75, 84, 91, 98, 105, 112, 200, 211, 218, 225, 230, 237, 244, 251, 258, 265, 272, 279, 286, 291, 296, 301, 15, 16, 17, 18, 19, 29, 32, 50, 51, 56, 57, 58, 59, 60, 63, 64, 65, 66, 67, 70, 71, 72, 73, 74, 81, 82, 83, 86, 87, 88, 89, 90, 93, 94, 95, 96, 97, 100, 101, 102, 103, 104, 107, 108, 109, 110, 111, 127, 136, 144, 151, 156, 164, 170, 177, 184, 191, 198, 199, 202, 203, 206, 207, 208, 209, 210, 213, 214, 215, 216, 217, 220, 221, 222, 223, 224, 227, 228, 229, 232, 233, 234, 235, 236, 239, 240, 241, 242, 243, 246, 247, 248, 249, 250, 253, 254, 255, 256, 257, 260, 261, 262, 263, 264, 267, 268, 269, 270, 271, 274, 275, 276, 277, 278, 281, 282, 283, 284, 285, 288, 289, 290, 293, 294, 295, 298, 299, 300, 49, 38, 126, 134, 135, 143, 150, 155, 163, 169, 176, 183, 190, 197, 44, 45, 46, 47, 48, 121, 122, 123, 124, 125, 133, 137, 138, 139, 140, 141, 142, 145, 146, 147, 148, 149, 152, 153, 154, 162, 168, 171, 172, 173, 174, 175, 178, 179, 180, 181, 182, 185, 186, 187, 188, 189, 192, 193, 194, 195, 196, 128, 129, 130, 131, 132, 157, 158, 159, 160, 161, 165, 166, 167, 2, 38]
abbrev hk : PySem.W.Hook := hookL AS fal fnl fna [] [] exf
def ob (s : PySem.W.SharedT) : AlW := obsL AS fal fnl fna [] [] exf (HandSHeadRun.getT s)
theorem ob_eq (s : PySem.W.SharedT) : ob s = hk.obs s.abs := obsL_eq (HandSHeadRun.getT_eq s)
def loose : List Str := "_wall" :: "PathError" :: "InvalidProgram" :: "is_number" :: "common_divisor" :: "common_multiple" :: "AXES" :: "VARIABLES" :: "ORDERS" :: "MODULI" :: "MOST_VALUE" :: "MOST_NAME" :: "is_name" :: "is_one_of" :: "is_within" :: "is_test" :: "is_line" :: "Program" :: "moved" :: "_law_bag" :: "_law_pull" :: "_law_same" :: "_law_test" :: "_law_line" :: "_law_drawn" :: "_law_lines" :: "_law_program" :: "_law_true" :: "_law_modulus" :: "_law_rests" :: "_law_followers" :: "_law_states" :: []
-- the run's equation in three parts: the kernel holds less at once
abbrev viewQ : Program := PySem.W.view Rw.prog [36]
noncomputable abbrev endQ' (w : World) (os : OsState) : Option PySem.W.SharedT := HandSHeadRun.endF (HandSHeadRun.stepQ (HandSHeadRun.denQ HandSHeadRun.tabQ) Rw.prog w) 20000 Rw.prog w os
theorem run_l (w : World) (os : OsState) : (endQ' w os).map (fun s => HandSHeadRun.looksF Rw.prog (PySem.W.boot_heap w.params) s.abs) = some true := by kernel_rfl
theorem run_s (w : World) (os : OsState) : (endQ' w os).map (fun s => HandSHeadRun.seenQ viewQ loose (PySem.importedModules Rw.prog.main.body) (fun s => PySem.W.xlAt viewQ [] s && PySem.W.recOk Rw.toRowW.records s) s.abs) = some (PySem.W.openGood viewQ loose) := by kernel_rfl
theorem run_o (w : World) (os : OsState) : (endQ' w os).map (fun s => ob s) = some (hk.val w) := by kernel_rfl
theorem map_three {α β γ δ : Type} {o : Option α} {f : α → β} {g : α → γ} {h : α → δ} {a : β} {b : γ} {c : δ} (e1 : o.map f = some a) (e2 : o.map g = some b) (e3 : o.map h = some c) : o.map (fun s => (f s, g s, h s)) = some (a, b, c) := by
  cases o with
  | none => cases e1
  | some x => exact congrArg some (Prod.ext (Option.some.inj e1) (Prod.ext (Option.some.inj e2) (Option.some.inj e3)))
theorem run (w : World) : HandSHeadRun.RunEq Rw viewQ hk ob 20000 loose w := fun os => map_three (run_l w os) (run_s w os) (run_o w os)

end Lw
namespace Bx
open PySem PySem.Spec PyProof.Rows L2
def axS (ax : Bool) : Str := if ax = true then "x" else "y"
end Bx
-- needs deep
/-! data stays where instances alone change -/
namespace Bx
open PySem PySem.Spec PyProof.Rows L2
def SameI (H H' : Hp) : Prop := ∀ a o, H a = some o → (∀ C dx fs, o ≠ .ins C dx fs) → H' a = some o
theorem SameI.put {H : Hp} {a C dx : Addr} {fs : List (Str × V)} {o : HO} (h : H a = some (.ins C dx fs)) : SameI H (L2.upd H a o) := fun b u q n => by
  have nb : b ≠ a := fun z => by
    rw [z, h] at q
    exact n _ _ _ (Option.some.inj q).symm
  rw [upd_ne nb]
  exact q
theorem SameI.seqT {K : PySem.W.Frag} {H H' : Hp} {a : Addr} {xs : List V} (e : SameI H H') (h : SqT K H a xs) : SqT K H' a xs := by
  rcases h with (h | ⟨o, h⟩) | h
  · exact .inl (.inl (e _ _ h fun _ _ _ z => by cases z))
  · exact .inl (.inr ⟨o, e _ _ h fun _ _ _ z => by cases z⟩)
  · exact .inr h
theorem SameI.seqL {K : PySem.W.Frag} {H H' : Hp} {a : Addr} {xs : List V} (e : SameI H H') (h : SqL K H a xs) : SqL K H' a xs := by
  rcases h with (h | ⟨o, h⟩) | h
  · exact .inl (.inl (e _ _ h fun _ _ _ z => by cases z))
  · exact .inl (.inr ⟨o, e _ _ h fun _ _ _ z => by cases z⟩)
  · exact .inr h
mutual
theorem Dp.sameI {K : PySem.W.Frag} {H H' : Hp} (e : SameI H H') : ∀ {d : PyData} {v : V}, Dp K H v d → Dp K H' v d
  | .none, _, h => by cases h; exact .non
  | .bool _, _, h => by cases h; exact .bl _
  | .int _, _, h => by cases h; exact .int _
  | .str _, _, h => by cases h; exact .str _
  | .list _, _, h => by
    cases h with
    | lst hs ha => exact .lst (e.seqL hs) (Dp.sameIs e ha)
  | .tuple _, _, h => by
    cases h with
    | tup hs ha => exact .tup (e.seqT hs) (Dp.sameIs e ha)
  | .dict _, _, h => by cases h
theorem Dp.sameIs {K : PySem.W.Frag} {H H' : Hp} (e : SameI H H') : ∀ {ds : List PyData} {vs : List V}, DpAll K H vs ds → DpAll K H' vs ds
  | [], _, h => by cases h; exact .nil
  | _ :: _, _, h => by
    cases h with
    | cons h1 h2 => exact .cons (Dp.sameI e h1) (Dp.sameIs e h2)
end
end Bx
-- needs pairs
namespace Bx
open PySem PySem.Spec PyProof.Rows L2
def bot (x y : Nat) : Str := if y = 0 then "flat" else if x = 0 then "steep" else "even"
end Bx
-- needs lists deep tables
-- imports HandS.IsInst
/-! values of any kind: what the checks say of them -/
namespace Bx
open PySem PySem.Spec PyProof.Rows L2
def tyD : PyData → String
  | .none => "NoneType"
  | .bool _ => "bool"
  | .int _ => "int"
  | .str _ => "str"
  | .list _ => "list"
  | .tuple _ => "tuple"
  | .dict _ => "dict"
theorem Dp.tyx {K : PySem.W.Frag} {H : Hp} {v : V} {d : PyData} (h : Dp K H v d) : TyX K H v (.type (tyD d)) := by
  cases h with
  | non => exact .base .non
  | bl b => exact .base (.bl b)
  | int i => exact .base (.int i)
  | str x => exact .base (.str x)
  | lst h1 _ => exact tyL h1
  | tup h1 _ => exact tyT h1
def isBoolD : PyData → Bool
  | .bool _ => true
  | _ => false
def isIntD : PyData → Bool
  | .int _ => true
  | _ => false
def isTupD : PyData → Bool
  | .tuple _ => true
  | _ => false
/-- isinstance(v, int), isinstance(v, bool), isinstance(v, tuple) -/
theorem kit_int : ∀ d : PyData, kitB (tyD d) "int" = some (isIntD d || isBoolD d)
  | .none => (show kitB "NoneType" "int" = some false by decide +kernel)
  | .bool _ => (show kitB "bool" "int" = some true by decide +kernel)
  | .int _ => (show kitB "int" "int" = some true by decide +kernel)
  | .str _ => (show kitB "str" "int" = some false by decide +kernel)
  | .list _ => (show kitB "list" "int" = some false by decide +kernel)
  | .tuple _ => (show kitB "tuple" "int" = some false by decide +kernel)
  | .dict _ => (show kitB "dict" "int" = some false by decide +kernel)
theorem kit_bool : ∀ d : PyData, kitB (tyD d) "bool" = some (isBoolD d)
  | .none => (show kitB "NoneType" "bool" = some false by decide +kernel)
  | .bool _ => (show kitB "bool" "bool" = some true by decide +kernel)
  | .int _ => (show kitB "int" "bool" = some false by decide +kernel)
  | .str _ => (show kitB "str" "bool" = some false by decide +kernel)
  | .list _ => (show kitB "list" "bool" = some false by decide +kernel)
  | .tuple _ => (show kitB "tuple" "bool" = some false by decide +kernel)
  | .dict _ => (show kitB "dict" "bool" = some false by decide +kernel)
theorem kit_tup : ∀ d : PyData, kitB (tyD d) "tuple" = some (isTupD d)
  | .none => (show kitB "NoneType" "tuple" = some false by decide +kernel)
  | .bool _ => (show kitB "bool" "tuple" = some false by decide +kernel)
  | .int _ => (show kitB "int" "tuple" = some false by decide +kernel)
  | .str _ => (show kitB "str" "tuple" = some false by decide +kernel)
  | .list _ => (show kitB "list" "tuple" = some false by decide +kernel)
  | .tuple _ => (show kitB "tuple" "tuple" = some true by decide +kernel)
  | .dict _ => (show kitB "dict" "tuple" = some false by decide +kernel)
theorem isTup_of {K : PySem.W.Frag} {H : Hp} {v : V} {d : PyData} (h : Dp K H v d) (e : isTupD d = true) : ∃ a xs ds, v = .ref a ∧ d = .tuple ds ∧ SqT K H a xs ∧ DpAll K H xs ds := by
  cases h with
  | tup h1 h2 => exact ⟨_, _, _, rfl, rfl, h1, h2⟩
  | _ => cases e
theorem isInt_of {K : PySem.W.Frag} {H : Hp} {v : V} {d : PyData} (h : Dp K H v d) (e : isIntD d = true) : ∃ i, v = .int i ∧ d = .int i := by
  cases h with
  | int i => exact ⟨i, rfl, rfl⟩
  | _ => cases e
/-- a number of one of n rows -/
def lenD : PyData → Nat
  | .tuple ds => ds.length
  | _ => 0
/-- a number of one of n rows -/
def spotD (n : Nat) : PyData → Bool
  | .int i => decide (0 ≤ i) && decide (i < (n : Int))
  | _ => false
/-- n booleans -/
def truthsD (n : Nat) : PyData → Bool
  | .tuple ds => decide (ds.length = n) && ds.all isBoolD
  | _ => false
def rowOkD (n : Nat) : PyData → Bool
  | .tuple ds => match ds with
    | [a, b, c] => isBoolD c && (spotD n a && spotD n b)
    | _ => false
  | _ => false
def inMod (i : Int) : Bool := decide (i = 1) || decide (i = 2) || decide (i = 3) || decide (i = 6)
def startsD (m : Int) (n : Nat) : PyData → Bool
  | .tuple ds => decide ((ds.length : Int) = m) && ds.all (spotD n)
  | _ => false
def tableD (m f s b r : PyData) : Bool := match m with
  | .int i => inMod i && (truthsD i.toNat f && (truthsD i.toNat s && match r with
    | .tuple rs => rs.all (rowOkD rs.length) && startsD i rs.length b
    | _ => false))
  | _ => false
theorem truths_ok (l : List Bool) : truthsD l.length (boolsD l) = true := by
  unfold boolsD truthsD
  dsimp only
  rw [decide_eq_true (by rw [List.length_map])]
  rw [Bool.true_and, List.all_map]
  exact List.all_eq_true.mpr fun _ _ => rfl
theorem spot_ok {n c : Nat} (h : c < n) : spotD n (.int (c : Int)) = true := by
  unfold spotD
  dsimp only
  rw [decide_eq_true (show (0 : Int) ≤ (c : Int) by omega), decide_eq_true (show (c : Int) < (n : Int) by omega)]
  rfl
theorem inMod_ok {m : Nat} (h : m = 1 ∨ m = 2 ∨ m = 3 ∨ m = 6) : inMod (m : Int) = true := by
  rcases h with e | e | e | e <;> subst e <;> decide
theorem tableD_ok {t : Tb} (ok : Tok t) : tableD (.int (t.m : Int)) (boolsD t.flats) (boolsD t.steeps) (natsD t.starts) (rowsD t.rows) = true := by
  unfold tableD
  have e1 : ((t.m : Int)).toNat = t.m := by omega
  have h1 : truthsD t.m (boolsD t.flats) = true := by rw [← ok.fl]; exact truths_ok _
  have h2 : truthsD t.m (boolsD t.steeps) = true := by rw [← ok.sl]; exact truths_ok _
  dsimp only
  rw [e1, inMod_ok ok.md, h1, h2]
  unfold rowsD
  dsimp only
  have h3 : (t.rows.map rowD).all (rowOkD (t.rows.map rowD).length) = true := by
    rw [List.all_map, List.length_map]
    refine List.all_eq_true.mpr fun r hr => ?_
    show rowOkD t.rows.length (rowD r) = true
    unfold rowD rowOkD
    dsimp only
    rw [spot_ok (ok.rw1 r hr), spot_ok (ok.rw2 r hr)]
    rfl
  rw [h3]
  unfold natsD startsD
  dsimp only
  rw [List.length_map, ok.tl, decide_eq_true rfl, List.length_map, List.all_map]
  have h4 : t.starts.all (spotD t.rows.length ∘ fun n : Nat => PyData.int (n : Int)) = true := List.all_eq_true.mpr fun c hc => spot_ok (ok.st c hc)
  rw [h4]
  rfl
theorem inMod_eq (i : Int) : inV (V.int i) [V.int 1, V.int 2, V.int 3, V.int 6] = inMod i := by
  by_cases h1 : i = 1
  · subst h1; decide +kernel
  · by_cases h2 : i = 2
    · subst h2; decide +kernel
    · by_cases h3 : i = 3
      · subst h3; decide +kernel
      · by_cases h6 : i = 6
        · subst h6; decide +kernel
        · unfold inMod
          rw [decide_eq_false h1, decide_eq_false h2, decide_eq_false h3, decide_eq_false h6]
          have ne : ∀ {j : Int}, ¬ i = j → eqV (V.int j) (V.int i) = false := fun {j} h => by
            unfold eqV
            simp [h, Ne.symm h]
            try omega
          simp [inV, ne h1, ne h2, ne h3, ne h6]
theorem inMod_nat {i : Int} (h : inMod i = true) : ∃ n : Nat, i = (n : Int) ∧ n ≤ 6 := by
  unfold inMod at h
  simp only [Bool.or_eq_true, decide_eq_true_eq] at h
  exact ⟨i.toNat, by omega, by omega⟩
end Bx
-- needs odd pairs
/-! runs, bottoms, divisors of any kind -/
namespace Bx
open PySem PySem.Spec PyProof.Rows L2
def flatPD : PyData → Bool
  | .none => true
  | .bool _ => true
  | .int _ => true
  | .str _ => true
  | _ => false
theorem flat_of {K : PySem.W.Frag} {H : Hp} {v : V} {d : PyData} (h : Dp K H v d) (f : flatPD d = true) : flatV v = true := by
  cases h <;> first | rfl | cases f
def inS (l : List Str) : PyData → Bool
  | .str s => inV (.str s) (l.map V.str)
  | _ => false
theorem inS_of {K : PySem.W.Frag} {H : Hp} {v : V} {d : PyData} (h : Dp K H v d) (f : flatPD d = true) (l : List Str) : inV v (l.map V.str) = inS l d := by
  cases h with
  | str s => rfl
  | lst _ _ => cases f
  | tup _ _ => cases f
  | _ =>
    exact List.any_eq_false.mpr fun y hy => by
      obtain ⟨x, _, rfl⟩ := List.mem_map.mp hy
      exact Bool.false_ne_true
def posD : PyData → Bool
  | .int i => decide (1 ≤ i)
  | _ => false
def runFl : PyData → Bool
  | .tuple ds => match ds with
    | [a, _] => flatPD a
    | _ => true
  | _ => true
def runOkD : PyData → Bool
  | .tuple ds => match ds with
    | [a, b] => inS ["X", "Y"] a && posD b
    | _ => false
  | _ => false
theorem runOk_run (r : Bool × Nat) : runOkD (runD r) = decide (1 ≤ r.2) := by
  obtain ⟨c, n⟩ := r
  show (inS ["X", "Y"] (.str (letS c)) && decide ((1 : Int) ≤ (n : Int))) = decide (1 ≤ n)
  have e : inS ["X", "Y"] (.str (letS c)) = true := by cases c <;> decide +kernel
  rw [e, Bool.true_and]
  exact decide_eq_decide.mpr ⟨fun h => by omega, fun h => by omega⟩
theorem runFl_run (r : Bool × Nat) : runFl (runD r) = true := rfl
theorem DpAll.two {K : PySem.W.Frag} {H : Hp} {xs : List V} {ds : List PyData} (h : DpAll K H xs ds) (e : xs.length = 2) : ∃ x y a b, xs = [x, y] ∧ ds = [a, b] ∧ Dp K H x a ∧ Dp K H y b := by
  cases h with
  | nil => cases e
  | cons h1 h =>
    cases h with
    | nil => cases e
    | cons h2 h =>
      cases h with
      | nil => exact ⟨_, _, _, _, rfl, rfl, h1, h2⟩
      | cons h4 h => cases e
theorem runOk_len {ds : List PyData} (h : ds.length ≠ 2) : runOkD (.tuple ds) = false := by
  unfold runOkD
  match ds, h with
  | [], _ => rfl
  | [_], _ => rfl
  | [_, _], h => exact absurd rfl h
  | _ :: _ :: _ :: _, _ => rfl
end Bx
-- needs lists
-- imports HandS.TupMul
/-! tuple * n, n at least 1 (tuple * 1 is the tuple itself) -/
namespace Bx
open PySem PySem.Spec PyProof.Rows L2
theorem tuple_mul1 (l : Addr) (items : Array Value) (n : Nat) (dd : Option Addr) (sl : Array (Option Value)) (u : PySem.Tok) :
    Meets (Builtin.«tuple.__mul__» ⟨[.ref l, .int 1 u], []⟩) (fun _ R s => s.heap.get? l = some { cls := .type "tuple", dict := dd, data := .seq items n, slots := sl } ∧ R (.ok (.ret (Value.ref l))) s) :=
  .of_wp fun prog w A R s h => by
    obtain ⟨hp, g, d, tk, os⟩ := s
    obtain ⟨hl, h⟩ := h
    have f1 := AutoSeq1.idx_int
    have c0 : (decide ((1 : Int) < -(2 ^ 63)) || decide ((1 : Int) ≥ 2 ^ 63)) = false := by decide
    have c1 : (items.isEmpty || (1 : Int) == 1) = true := by rw [show ((1 : Int) == 1) = true from rfl, Bool.or_true]
    wp_walk using wpAny_loadPart' hl
    repeat (first
      | (refine wpAny_ite_false (decide_eq_false (by rw [c0]; exact Bool.false_ne_true)) ?_; wp_walk using wpAny_loadPart' hl)
      | (refine wpAny_ite_true (decide_eq_true c1) ?_; wp_walk using wpAny_loadPart' hl))
    exact ⟨_, rfl, h⟩
def rRepTA (K : PySem.W.Frag) : R2 := fun x y H Q => ∃ l k xs, x = .ref l ∧ y = .int k ∧ SqT K H l xs ∧ xs ≠ [] ∧ 1 ≤ k ∧ k ≤ 1000 ∧ xs.length ≤ 1000 ∧ (k = 1 → Q (.ref l) H) ∧ (2 ≤ k → ∀ p, H p = none → Q (.ref p) (upd H p (.tup (List.replicate k.toNat xs).flatten)))
theorem op_repTA {X : Cx} : OpR X (binaryOp .Mult) (rRepTA X.K) := by
  intro pins s σ H x y v u Q I rx ry h
  obtain ⟨l, k, xs, rfl, rfl, hT, hne, h1, h2, hz, q1, q2⟩ := h
  by_cases h3 : 2 ≤ k
  · exact op_repT pins s σ H _ _ v u Q I rx ry ⟨l, k, xs, rfl, rfl, hT, hne, h3, h2, hz, q2 h3⟩
  obtain rfl : k = 1 := by omega
  cases rx
  obtain ⟨t, rfl⟩ := ry
  obtain ⟨its, r, ⟨⟨cls, dd, data, sl⟩, ho, hc, n, hd⟩, hs⟩ := I.tuple hT
  simp only at hc hd
  subst hc hd
  refine wpAny_binaryOp_repeat_ref (T := "tuple") (U := "int") (by decide) ⟨_, ho, rfl⟩ (fun s' => typeIs_int s' 1 t) noFill_tuple_mul F.fills_int_mul F.slot_int_rmul repeat_tuple F.slot_int_index.lookup
    (call_meets F.slot_int_rmul (typeIs_int s 1 t) F.entry_int_rmul (F.args_int_rmul_2 _ _) (int_rmul_tuple 1 t l its.toArray n dd sl)
      ⟨ho, rfl, ⟨_, ho, rfl⟩, call_meets F.slot_tuple_mul ⟨_, ho, rfl⟩ F.entry_tuple_mul (F.args_tuple_mul_2 _ _) (tuple_mul1 l its.toArray n dd sl t) ⟨ho, ?_⟩⟩)
  exact ⟨.ref l, H, I, rfl, q1 rfl⟩
end Bx
-- needs lists
/-! the law's bag of draws -/
namespace Bx
open PySem PySem.Spec PyProof.Rows L2
structure Bag (H : Hp) (b : Addr) : Prop where
  ex : ∃ (c : Addr) (xs : List Int) (i hold seed : Int), H b = some (.lst [.ref c, .int i, .int hold, .int seed]) ∧ H c = some (.lst (xs.map V.int)) ∧ b ≠ c ∧ xs.length ≤ 63 ∧ 0 ≤ i ∧ 0 ≤ hold ∧ 0 ≤ seed ∧ seed < 2147483647
theorem Bag.keep {H H' : Hp} {b : Addr} (B : Bag H b) (e : Same H H') : Bag H' b := by
  obtain ⟨c, xs, i, hold, seed, h1, h2, r⟩ := B.ex
  exact ⟨c, xs, i, hold, seed, e _ _ h1, e _ _ h2, r⟩
theorem Bag.at_ {H : Hp} {b : Addr} (B : Bag H b) : ∃ o, H b = some o := by
  obtain ⟨c, xs, i, hold, seed, h1, _⟩ := B.ex
  exact ⟨_, h1⟩
theorem Bag.ne {H : Hp} {b p : Addr} (B : Bag H b) (h : H p = none) : p ≠ b := fun e => by
  obtain ⟨o, q⟩ := B.at_
  rw [← e, h] at q
  cases q
/-- a tuple is not the bag -/
theorem Bag.neT {H : Hp} {b p : Addr} {xs : List V} (B : Bag H b) (h : H p = some (.tup xs)) : p ≠ b := fun e => by
  obtain ⟨c, ys, i, hold, seed, h1, _⟩ := B.ex
  rw [e, h1] at h
  cases h
theorem emod_bd (x : Int) {m : Int} (h : 0 < m) : 0 ≤ x % m ∧ x % m < m := ⟨Int.emod_nonneg x (by omega), Int.emod_lt_of_pos x h⟩
end Bx
namespace Bx
open PySem PySem.Spec PyProof.Rows L2
/-- a tuple stays behind a draw -/
theorem Bag.seqT {K : PySem.W.Frag} {H H' : Hp} {b a : Addr} {xs : List V} (B : Bag H b) (e : Kp b H H') (h : SqT K H a xs) : SqT K H' a xs := by
  have nb : ∀ o, H a = some o → (∀ ys, o ≠ .lst ys) → a ≠ b := fun o q n z => by
    obtain ⟨c, ys, i, hold, seed, h1, _⟩ := B.ex
    rw [z, h1] at q
    exact n _ (Option.some.inj q).symm
  rcases h with (h | ⟨o, h⟩) | h
  · exact .inl (.inl (e _ _ (nb _ h fun _ z => by cases z) h))
  · exact .inl (.inr ⟨o, e _ _ (nb _ h fun _ z => by cases z) h⟩)
  · exact .inr h
end Bx
-- needs deep
namespace Bx
open PySem PySem.Spec PyProof.Rows L2
theorem Bag.sameT {H H' : Hp} {b : Addr} (B : Bag H b) (e : Kp b H H') : SameT H H' := fun a o q n => by
  refine e a o (fun z => ?_) q
  obtain ⟨c, ys, i, hold, seed, h1, _⟩ := B.ex
  rw [z, h1] at q
  exact n _ (Option.some.inj q).symm
/-- another list changes: not the one of the script's numbers -/
theorem Bag.other {H : Hp} {b D c : Addr} {r : List V} {o : HO} (B : Bag H b) (hc : H b = some (.lst (.ref c :: r))) (nb : D ≠ b) (n : c ≠ D) : Bag (L2.upd H D o) b := by
  obtain ⟨c', xs, i, hold, seed, h1, h2, h3⟩ := B.ex
  rw [hc] at h1
  cases h1
  exact ⟨c, xs, i, hold, seed, by rw [upd_ne nb.symm]; exact hc, by rw [upd_ne n]; exact h2, h3⟩
theorem Bag.inn {H : Hp} {b : Addr} (B : Bag H b) : ∃ c r, H b = some (.lst (.ref c :: r)) ∧ ∃ o, H c = some o := by
  obtain ⟨c, xs, i, hold, seed, h1, h2, _⟩ := B.ex
  exact ⟨c, _, h1, _, h2⟩
end Bx
-- needs odd tupmul bag
-- imports HandS.TupAny
/-! odd tables: lists of five parts that are no table -/
namespace Bx
open PySem PySem.Spec PyProof.Rows L2
theorem catA_ok {K : PySem.W.Frag} {H : Hp} {a b : Addr} {xs ys : List V} {Q : VK} (ha : SqT K H a xs) (hb : SqT K H b ys) (hz : xs.length + ys.length ≤ 100000) (k : ∀ q H', Same H H' → SqT K H' q (xs ++ ys) → Q (.ref q) H') : rCatA K (.ref a) (.ref b) H Q := by
  refine ⟨a, b, xs, ys, rfl, rfl, ha, hb, sz hz, fun e => ?_, fun _ e => ?_, fun _ _ p hp => ?_⟩
  · subst e
    exact k b H (Same.refl _) hb
  · subst e
    exact k a H (Same.refl _) (by rw [List.append_nil]; exact ha)
  · exact k p _ (same_new hp) (SqT.of upd_same)
theorem repTA_ok {K : PySem.W.Frag} {H : Hp} {a : Addr} {x : V} {n : Nat} {Q : VK} (ha : SqT K H a [x]) (h1 : 1 ≤ n) (h2 : n ≤ 1000) (k : ∀ q H', Same H H' → SqT K H' q (List.replicate n x) → Q (.ref q) H') : rRepTA K (.ref a) (.int (n : Int)) H Q := by
  refine ⟨a, n, [x], rfl, rfl, ha, by simp, by omega, by omega, by simp, fun e => ?_, fun _ p hp => ?_⟩
  · have : n = 1 := by omega
    subst this
    exact k a H (Same.refl _) ha
  · refine k p _ (same_new hp) (SqT.of ?_)
    rw [upd_same]
    have : ((n : Int)).toNat = n := by omega
    rw [this]
    have : ∀ n : Nat, (List.replicate n [x]).flatten = List.replicate n x := fun n => by
      induction n with
      | zero => rfl
      | succ n ih => rw [List.replicate_succ, List.flatten_cons, ih]; rfl
    rw [this]
theorem slA_any {K : PySem.W.Frag} {H : Hp} {a : Addr} {xs : List V} {lo hi : Option Int} {Q : VK} (hs : SqT K H a xs) (k : ∀ q H', Same H H' → SqT K H' q (cutV xs lo hi) → Q (.ref q) H') : rSlA K (.ref a) lo hi H Q := by
  refine ⟨a, xs, rfl, hs, fun w => ?_, fun w q hq => ?_⟩
  · have hw : cutV xs lo hi = xs := by
      unfold cutV
      rw [w.1, w.2, List.drop_zero, Nat.sub_zero, List.take_length]
    exact k a H (Same.refl _) (by rw [hw]; exact hs)
  · exact k q _ (same_new hq) (SqT.of upd_same)
theorem cut_to' {xs : List V} {n : Nat} (h : n ≤ xs.length) : cutV xs none (some (n : Int)) = xs.take n := by
  unfold cutV
  rw [HT.sIx_none, HT.sIx_nat, List.drop_zero, Nat.sub_zero, Nat.min_eq_left h]
theorem cut_last {xs : List V} (h : 0 < xs.length) : cutV xs none (some (-1)) = xs.take (xs.length - 1) := by
  unfold cutV
  rw [HT.sIx_none, List.drop_zero, Nat.sub_zero]
  congr 1
  simp only [HT.sIx]
  rw [if_pos (show (-1 : Int) < 0 by decide)]
  omega
theorem dpTake {K : PySem.W.Frag} {H : Hp} : ∀ {vs : List V} {ds : List PyData} (n : Nat), DpAll K H vs ds → DpAll K H (vs.take n) (ds.take n)
  | _, _, 0, _ => by rw [List.take_zero, List.take_zero]; exact .nil
  | _, _, _ + 1, .nil => .nil
  | _, _, n + 1, .cons h t => .cons h (dpTake n t)
theorem dpDrop {K : PySem.W.Frag} {H : Hp} : ∀ {vs : List V} {ds : List PyData} (n : Nat), DpAll K H vs ds → DpAll K H (vs.drop n) (ds.drop n)
  | _, _, 0, h => h
  | _, _, _ + 1, .nil => .nil
  | _, _, n + 1, .cons _ t => dpDrop n t
theorem dpRep {K : PySem.W.Frag} {H : Hp} {v : V} {d : PyData} (h : Dp K H v d) : ∀ n : Nat, DpAll K H (List.replicate n v) (List.replicate n d)
  | 0 => .nil
  | n + 1 => .cons h (dpRep h n)
theorem noLs_rep {d : PyData} (h : noL d = true) : ∀ n : Nat, noLs (List.replicate n d) = true
  | 0 => rfl
  | n + 1 => by rw [List.replicate_succ, noLs, h, noLs_rep h n]; rfl
theorem noLs_take : ∀ {ds : List PyData} (n : Nat), noLs ds = true → noLs (ds.take n) = true
  | _, 0, _ => by rw [List.take_zero]; rfl
  | [], _ + 1, _ => rfl
  | d :: ds, n + 1, h => by
    rw [noLs, Bool.and_eq_true] at h
    rw [List.take_succ_cons, noLs, h.1, noLs_take n h.2]; rfl
theorem noLs_drop : ∀ {ds : List PyData} (n : Nat), noLs ds = true → noLs (ds.drop n) = true
  | _, 0, h => h
  | [], _ + 1, _ => rfl
  | d :: ds, n + 1, h => by
    rw [noLs, Bool.and_eq_true] at h
    exact noLs_drop n h.2
theorem noLs_app : ∀ {ds es : List PyData}, noLs ds = true → noLs es = true → noLs (ds ++ es) = true
  | [], _, _, h => h
  | d :: ds, es, h, h2 => by
    rw [noLs, Bool.and_eq_true] at h
    rw [List.cons_append, noLs, h.1, noLs_app h.2 h2]; rfl
/-- five parts that are no table -/
def BadT (K : PySem.W.Frag) (H : Hp) (v : V) : Prop := ∃ dm df ds db dr : PyData, Dp K H v (.tuple [dm, df, ds, db, dr]) ∧ lenD dr ≤ 1000 ∧ lenD db ≤ 1000 ∧ noL (.tuple [dm, df, ds, db, dr]) = true ∧ tableD dm df ds db dr = false
theorem BadT.same {K : PySem.W.Frag} {H H' : Hp} {v : V} (e : Same H H') (h : BadT K H v) : BadT K H' v := by
  obtain ⟨dm, df, ds, db, dr, h1, r⟩ := h
  exact ⟨dm, df, ds, db, dr, Dp.same e h1, r⟩
theorem BadT.sameT {K : PySem.W.Frag} {H H' : Hp} {v : V} (e : SameT H H') (h : BadT K H v) : BadT K H' v := by
  obtain ⟨dm, df, ds, db, dr, h1, h2, h3, h4, h5⟩ := h
  exact ⟨dm, df, ds, db, dr, Dp.sameT e h4 h1, h2, h3, h4, h5⟩
theorem bad_new {K : PySem.W.Frag} {H : Hp} {p : Addr} {m f s b r : V} {dm df ds db dr : PyData} (h : H p = none) (hm : Dp K H m dm) (hf : Dp K H f df) (hs : Dp K H s ds) (hb : Dp K H b db) (hr : Dp K H r dr) (lr : lenD dr ≤ 1000) (lb : lenD db ≤ 1000)
    (nm : noL dm = true) (nf : noL df = true) (ns : noL ds = true) (nb : noL db = true) (nr : noL dr = true) (no : tableD dm df ds db dr = false) : BadT K (upd H p (.tup [m, f, s, b, r])) (.ref p) := by
  have e := same_new (o := .tup [m, f, s, b, r]) h
  refine ⟨dm, df, ds, db, dr, .tup (SqT.of upd_same) (.cons (Dp.same e hm) (.cons (Dp.same e hf) (.cons (Dp.same e hs) (.cons (Dp.same e hb) (.cons (Dp.same e hr) .nil))))), lr, lb, ?_, no⟩
  rw [noL, noLs, noLs, noLs, noLs, noLs, nm, nf, ns, nb, nr]
  rfl
theorem odd_cat {K : PySem.W.Frag} {H0 H1 HA : Hp} {D q D2 : Addr} {xs zs : List V} (hs : Same H0 H1) (hD : H1 D = some (.lst xs)) (hb : ∀ x ∈ xs, BadT K H1 x) (e : Same H1 HA) (hz : ∀ x ∈ zs, BadT K HA x) (hq : HA q = none) (h2 : upd HA q (.lst zs) D2 = none) :
    Same H0 (upd (upd HA q (.lst zs)) D2 (.lst (xs ++ zs))) ∧ upd (upd HA q (.lst zs)) D2 (.lst (xs ++ zs)) D2 = some (.lst (xs ++ zs)) ∧ ∀ x ∈ xs ++ zs, BadT K (upd (upd HA q (.lst zs)) D2 (.lst (xs ++ zs))) x := by
  have eq := same_new (o := .lst zs) hq
  have e2 := same_new (o := .lst (xs ++ zs)) h2
  refine ⟨((hs.trans e).trans eq).trans e2, upd_same, fun x hx => ?_⟩
  rcases List.mem_append.mp hx with z | z
  · exact (hb x z).same (e.trans (eq.trans e2))
  · exact (hz x z).same (eq.trans e2)
/-! why they are none -/
theorem no_f {i : Int} {f s b r : PyData} (h : truthsD i.toNat f = false) : tableD (.int i) f s b r = false := by simp [tableD, h]
theorem no_s {i : Int} {f s b r : PyData} (h : truthsD i.toNat s = false) : tableD (.int i) f s b r = false := by simp [tableD, h]
theorem no_r {i : Int} {f s b r : PyData} (h : isTupD r = false) : tableD (.int i) f s b r = false := by cases r <;> first | (simp [tableD]; done) | cases h
theorem no_row {i : Int} {f s b : PyData} {rs : List PyData} (h : rs.all (rowOkD rs.length) = false) : tableD (.int i) f s b (.tuple rs) = false := by simp [tableD, h]
theorem no_b {i : Int} {f s b : PyData} {rs : List PyData} (h : startsD i rs.length b = false) : tableD (.int i) f s b (.tuple rs) = false := by simp [tableD, h]
theorem truths_len {n : Nat} {ds : List PyData} (h : ds.length ≠ n) : truthsD n (.tuple ds) = false := by
  unfold truthsD
  dsimp only
  rw [decide_eq_false h]
  rfl
theorem starts_len {i : Int} {n : Nat} {ds : List PyData} (h : (ds.length : Int) ≠ i) : startsD i n (.tuple ds) = false := by
  unfold startsD
  dsimp only
  rw [decide_eq_false h]
  rfl
theorem starts_rep {m n : Nat} {d : PyData} (h0 : 0 < m) (h : spotD n d = false) : startsD (m : Int) n (.tuple (List.replicate m d)) = false := by
  unfold startsD
  dsimp only
  obtain ⟨m, rfl⟩ : ∃ k, m = k + 1 := ⟨m - 1, by omega⟩
  rw [List.replicate_succ, List.all_cons, h, Bool.false_and, Bool.and_false]
theorem truths_rep {m : Nat} {d : PyData} (h0 : 0 < m) (h : isBoolD d = false) : truthsD m (.tuple (List.replicate m d)) = false := by
  unfold truthsD
  dsimp only
  obtain ⟨m, rfl⟩ : ∃ k, m = k + 1 := ⟨m - 1, by omega⟩
  rw [List.replicate_succ, List.all_cons, h, Bool.false_and, Bool.and_false]
theorem starts_none {m : Nat} {l : List Nat} (h0 : 0 < m) : startsD (m : Int) 0 (natsD l) = false := by
  unfold natsD startsD
  dsimp only
  cases l with
  | nil =>
    rw [decide_eq_false (by show ¬ (((0 : Nat)) : Int) = (m : Int); omega)]
    rfl
  | cons a l =>
    have : spotD 0 (.int (a : Int)) = false := by
      unfold spotD
      dsimp only
      rw [decide_eq_false (show ¬ ((a : Int) < ((0 : Nat) : Int)) by omega), Bool.and_false]
    rw [List.map_cons, List.all_cons, this, Bool.false_and, Bool.and_false]
/-- a row that is none -/
def BadR (K : PySem.W.Frag) (H : Hp) (n : Nat) (v : V) : Prop := ∃ d, Dp K H v d ∧ noL d = true ∧ rowOkD n d = false
theorem BadR.same {K : PySem.W.Frag} {H H' : Hp} {n : Nat} {v : V} (e : Same H H') (h : BadR K H n v) : BadR K H' n v := by
  obtain ⟨d, h1, r⟩ := h
  exact ⟨d, Dp.same e h1, r⟩
theorem BadR.sameT {K : PySem.W.Frag} {H H' : Hp} {n : Nat} {v : V} (e : SameT H H') (h : BadR K H n v) : BadR K H' n v := by
  obtain ⟨d, h1, h2, h3⟩ := h
  exact ⟨d, Dp.sameT e h2 h1, h2, h3⟩
theorem badR_new {K : PySem.W.Frag} {H : Hp} {p : Addr} {n : Nat} {xs : List V} {ds : List PyData} (h : H p = none) (A : DpAll K H xs ds) (hn : noLs ds = true) (no : rowOkD n (.tuple ds) = false) : BadR K (upd H p (.tup xs)) n (.ref p) :=
  ⟨.tuple ds, .tup (SqT.of upd_same) (Dp.sameAll (same_new h) A), by rw [noL]; exact hn, no⟩
theorem dpB {K : PySem.W.Frag} {H : Hp} : ∀ l : List Bool, DpAll K H (l.map V.bl) (l.map PyData.bool)
  | [] => .nil
  | b :: l => .cons (.bl b) (dpB l)
theorem dpN {K : PySem.W.Frag} {H : Hp} : ∀ l : List Nat, DpAll K H (l.map fun n : Nat => V.int (n : Int)) (l.map fun n : Nat => PyData.int (n : Int))
  | [] => .nil
  | b :: l => .cons (.int _) (dpN l)
end Bx
-- needs odd oddrun oddT
/-! what is a condition, by its data -/
namespace Bx
open PySem PySem.Spec PyProof.Rows L2
def isStrD : PyData → Bool
  | .str _ => true
  | _ => false
theorem kit_str : ∀ d : PyData, kitB (tyD d) "str" = some (isStrD d)
  | .none => (show kitB "NoneType" "str" = some false by decide +kernel)
  | .bool _ => (show kitB "bool" "str" = some false by decide +kernel)
  | .int _ => (show kitB "int" "str" = some false by decide +kernel)
  | .str _ => (show kitB "str" "str" = some true by decide +kernel)
  | .list _ => (show kitB "list" "str" = some false by decide +kernel)
  | .tuple _ => (show kitB "tuple" "str" = some false by decide +kernel)
  | .dict _ => (show kitB "dict" "str" = some false by decide +kernel)
theorem isStr_of {K : PySem.W.Frag} {H : Hp} {v : V} {d : PyData} (h : Dp K H v d) (e : isStrD d = true) : ∃ z, v = .str z ∧ d = .str z := by
  cases h <;> first | exact ⟨_, rfl, rfl⟩ | cases e
def withinD (m : Int) : PyData → Bool
  | .int i => decide (0 ≤ i) && decide (i ≤ m)
  | _ => false
def partD : PyData → Bool
  | .int i => decide (0 ≤ i) && decide (i ≤ 30) && decide (0 < i)
  | _ => false
def axesS : List Str := ["x", "y"]
def signsS : List Str := ["<", "=", ">"]
def wordsS : List Str := ["not", "and", "or"]
def midD (b c : PyData) : Bool := match b with
  | .int m => (decide (m = 2) || decide (m = 3)) && withinD (m - 1) c
  | _ => false
def restD : List PyData → Bool
  | [a, b, c] => inS axesS a && midD b c
  | _ => false
def ratioD : List PyData → Bool
  | [a, b, c] => inS signsS a && (partD b && partD c)
  | _ => false
def zeroD : List PyData → Bool
  | [a] => inS axesS a
  | _ => false
def plainD (w : Str) (ds : List PyData) : Bool :=
  if w = "all" then ds.isEmpty else if w = "zero" then zeroD ds else if w = "rest" then restD ds else if w = "ratio" then ratioD ds else false
def validC : Nat → PyData → Bool
  | 0, _ => false
  | n + 1, .tuple (.str w :: ds) => if inS wordsS (.str w) = true then (if w = "not" ∧ ds.length ≠ 1 then false else ds.all (validC n)) else plainD w ds
  | _ + 1, _ => false
theorem validC_tup (n : Nat) (w : Str) (ds : List PyData) : validC (n + 1) (.tuple (.str w :: ds)) = if inS wordsS (.str w) = true then (if w = "not" ∧ ds.length ≠ 1 then false else ds.all (validC n)) else plainD w ds := rfl
theorem validC_no {n : Nat} {d : PyData} (h : ∀ w ds, d ≠ .tuple (.str w :: ds)) : validC n d = false := by
  match n, d with
  | 0, _ => rfl
  | n + 1, .tuple (.str w :: ds) => exact absurd rfl (h w ds)
  | n + 1, .none => rfl
  | n + 1, .bool _ => rfl
  | n + 1, .int _ => rfl
  | n + 1, .str _ => rfl
  | n + 1, .list _ => rfl
  | n + 1, .dict _ => rfl
  | n + 1, .tuple [] => rfl
  | n + 1, .tuple (.none :: _) => rfl
  | n + 1, .tuple (.bool _ :: _) => rfl
  | n + 1, .tuple (.int _ :: _) => rfl
  | n + 1, .tuple (.list _ :: _) => rfl
  | n + 1, .tuple (.tuple _ :: _) => rfl
  | n + 1, .tuple (.dict _ :: _) => rfl
theorem nc_0 (a : V) (xs : List V) : atI (a :: xs) 0 = some a := atI_nat (j := 0) rfl
theorem canAll_mem : ∀ {ds : List PyData}, PyData.canLayAll0 ds = true → ∀ d ∈ ds, d.canLay0 = true
  | [], _, d, h => absurd h List.not_mem_nil
  | x :: ds, hc, d, h => by
    rw [PyData.canLayAll0, Bool.and_eq_true] at hc
    rcases List.mem_cons.mp h with rfl | h
    · exact hc.1
    · exact canAll_mem hc.2 d h
theorem depth_mem : ∀ {ds : List PyData}, ∀ d ∈ ds, d.depth ≤ PyData.depthAll ds
  | [], d, h => absurd h List.not_mem_nil
  | x :: ds, d, h => by
    rw [PyData.depthAll]
    rcases List.mem_cons.mp h with rfl | h
    · exact Nat.le_max_left _ _
    · exact Nat.le_trans (depth_mem d h) (Nat.le_max_right _ _)
theorem shaped_parts {x : PyData} {ds : List PyData} (h : SeqAt.shaped (.tuple (x :: ds)) = true) : SeqAt.shaped (.list ds) = true ∧ ∀ d ∈ ds, SeqAt.shaped d = true := by
  have h1 := SeqAt.canLay_of_shaped h
  have h2 := SeqAt.depth_of_shaped h
  rw [PyData.canLay0, PyData.canLayAll0, Bool.and_eq_true] at h1
  rw [PyData.depth, PyData.depthAll] at h2
  have h3 := Nat.le_max_right x.depth (PyData.depthAll ds)
  refine ⟨?_, fun d hd => ?_⟩
  · unfold SeqAt.shaped
    rw [PyData.canLay0, h1.2, PyData.depth]
    show decide _ = true
    exact decide_eq_true (by omega)
  · unfold SeqAt.shaped
    rw [canAll_mem h1.2 d hd]
    have := depth_mem d hd
    show decide _ = true
    exact decide_eq_true (by omega)
end Bx
-- needs cond oddT deepI
/-! data without lists, of few levels -/
namespace Bx
open PySem PySem.Spec PyProof.Rows L2
structure TameD (k : Nat) (d : PyData) : Prop where
  lay : d.canLay0 = true
  dep : d.depth ≤ k
  nl : noL d = true
theorem canAll_of : ∀ {ds : List PyData}, (∀ d ∈ ds, d.canLay0 = true) → PyData.canLayAll0 ds = true
  | [], _ => rfl
  | d :: ds, h => by
    rw [PyData.canLayAll0, h d List.mem_cons_self, canAll_of fun x hx => h x (List.mem_cons_of_mem _ hx)]
    rfl
theorem depAll_of {k : Nat} : ∀ {ds : List PyData}, (∀ d ∈ ds, d.depth ≤ k) → PyData.depthAll ds ≤ k
  | [], _ => Nat.zero_le _
  | d :: ds, h => by
    rw [PyData.depthAll]
    exact Nat.max_le.mpr ⟨h d List.mem_cons_self, depAll_of fun x hx => h x (List.mem_cons_of_mem _ hx)⟩
theorem noLs_of : ∀ {ds : List PyData}, (∀ d ∈ ds, noL d = true) → noLs ds = true
  | [], _ => rfl
  | d :: ds, h => by
    rw [noLs, h d List.mem_cons_self, noLs_of fun x hx => h x (List.mem_cons_of_mem _ hx)]
    rfl
theorem tame_tup {k : Nat} {ds : List PyData} (h : ∀ d ∈ ds, TameD k d) : TameD (k + 1) (.tuple ds) := by
  refine ⟨?_, ?_, ?_⟩
  · rw [PyData.canLay0]
    exact canAll_of fun d hd => (h d hd).lay
  · rw [PyData.depth]
    have := depAll_of (k := k) fun d hd => (h d hd).dep
    omega
  · rw [noL]
    exact noLs_of fun d hd => (h d hd).nl
theorem tame_str {k : Nat} {z : Str} (h : PyData.canLay0 (.str z) = true) : TameD k (.str z) := ⟨h, Nat.zero_le _, rfl⟩
theorem tame_int (k : Nat) (i : Int) : TameD k (.int i) := ⟨rfl, Nat.zero_le _, rfl⟩
theorem tame_shaped {k : Nat} {d : PyData} (h : TameD k d) (hk : k ≤ 64) : SeqAt.shaped d = true := by
  unfold SeqAt.shaped
  rw [h.lay]
  have := h.dep
  show decide _ = true
  exact decide_eq_true (by omega)
end Bx
-- needs axs deepI tame
/-! programs: their lines by what they are, and as data -/
namespace Bx
open PySem PySem.Spec PyProof.Rows L2
inductive V3 | a | b | c
inductive O3 | less | equal | more
def V3.s : V3 → Str
  | .a => "a"
  | .b => "b"
  | .c => "c"
def V3.j : V3 → Nat
  | .a => 0
  | .b => 1
  | .c => 2
def O3.s : O3 → Str
  | .less => "less"
  | .equal => "equal"
  | .more => "more"
inductive Tst
  | ord (o : O3)
  | zero (ax : Bool)
  | holds (v : V3) (n : Nat)
  | rest (ax : Bool) (m r : Nat)
inductive Lin
  | add (ax : Bool)
  | take (ax : Bool)
  | set (v : V3) (n : Nat)
  | test (t : Tst) (n : Nat)
  | choose (n : Nat)
  | go (n : Nat)
  | stop (z : Str)
def Tst.w : Tst → Str
  | .ord o => o.s
  | .zero _ => "zero"
  | .holds _ _ => "holds"
  | .rest _ _ _ => "rest"
def Tst.ds : Tst → List PyData
  | .ord _ => []
  | .zero ax => [.str (axS ax)]
  | .holds v n => [.str v.s, .int (n : Int)]
  | .rest ax m r => [.str (axS ax), .int (m : Int), .int (r : Int)]
def Tst.d (t : Tst) : PyData := .tuple (.str t.w :: t.ds)
def Lin.w : Lin → Str
  | .add _ => "add"
  | .take _ => "take"
  | .set _ _ => "set"
  | .test _ _ => "if"
  | .choose _ => "choose"
  | .go _ => "go"
  | .stop _ => "stop"
def Lin.ds : Lin → List PyData
  | .add ax => [.str (axS ax)]
  | .take ax => [.str (axS ax)]
  | .set v n => [.str v.s, .int (n : Int)]
  | .test t n => [t.d, .int (n : Int)]
  | .choose n => [.int (n : Int)]
  | .go n => [.int (n : Int)]
  | .stop z => [.str z]
def Lin.d (l : Lin) : PyData := .tuple (.str l.w :: l.ds)
def lowB (c : Nat) : Bool := decide (97 ≤ c) && decide (c ≤ 122)
/-- a name of small letters, not the word end -/
def nameB (z : Str) : Bool := decide (1 ≤ z.length) && decide (z.length ≤ 8) && z.cps.toList.all lowB
def Tst.Ok : Tst → Prop
  | .holds _ n => n ≤ 3
  | .rest _ m r => (m = 2 ∨ m = 3) ∧ r < m
  | _ => True
def Lin.Ok (many : Nat) : Lin → Prop
  | .set _ n => n ≤ 3
  | .test t n => t.Ok ∧ n ≤ many
  | .choose n => n ≤ many
  | .go n => n ≤ many
  | .stop z => nameB z = true ∧ z ≠ "end"
  | _ => True
theorem Tst.nl (t : Tst) : noL t.d = true := by cases t <;> rfl
theorem Lin.nl (l : Lin) : noL l.d = true := by
  cases l with
  | test t n =>
    show noLs [.str "if", t.d, .int (n : Int)] = true
    rw [noLs, noLs, t.nl]
    rfl
  | _ => rfl
theorem lin_nls (ls : List Lin) : noLs (ls.map Lin.d) = true := noLs_of fun d hd => by
  obtain ⟨l, _, rfl⟩ := List.mem_map.mp hd
  exact l.nl
/-! the parts in the heap -/
section
variable {K : PySem.W.Frag} {H : Hp}
theorem Dp.tst {v : V} {t : Tst} (h : Dp K H v t.d) : ∃ a us, v = .ref a ∧ SqT K H a (.str t.w :: us) ∧ DpAll K H us t.ds := by
  obtain ⟨a, xs, e, hS, hA⟩ := Dp.tup' h
  cases hA with
  | cons hx hr => cases hx; exact ⟨a, _, e, hS, hr⟩
theorem Dp.lin {v : V} {l : Lin} (h : Dp K H v l.d) : ∃ a us, v = .ref a ∧ SqT K H a (.str l.w :: us) ∧ DpAll K H us l.ds := by
  obtain ⟨a, xs, e, hS, hA⟩ := Dp.tup' h
  cases hA with
  | cons hx hr => cases hx; exact ⟨a, _, e, hS, hr⟩
theorem DpAll.one' {us : List V} {d : PyData} (h : DpAll K H us [d]) : ∃ u, us = [u] ∧ Dp K H u d := by
  cases h with
  | cons h1 h2 => cases h2; exact ⟨_, rfl, h1⟩
theorem DpAll.two' {us : List V} {d e : PyData} (h : DpAll K H us [d, e]) : ∃ u v, us = [u, v] ∧ Dp K H u d ∧ Dp K H v e := by
  cases h with
  | cons h1 h2 => cases h2 with
    | cons h3 h4 => cases h4; exact ⟨_, _, rfl, h1, h3⟩
theorem DpAll.three' {us : List V} {d e f : PyData} (h : DpAll K H us [d, e, f]) : ∃ u v w, us = [u, v, w] ∧ Dp K H u d ∧ Dp K H v e ∧ Dp K H w f := by
  cases h with
  | cons h1 h2 => cases h2 with
    | cons h3 h4 => cases h4 with
      | cons h5 h6 => cases h6; exact ⟨_, _, _, rfl, h1, h3, h5⟩
theorem Dp.strE {v : V} {z : Str} (h : Dp K H v (.str z)) : v = .str z := by cases h; rfl
theorem Dp.intE {v : V} {i : Int} (h : Dp K H v (.int i)) : v = .int i := by cases h; rfl
end
theorem at_0 (a : V) (xs : List V) : atI (a :: xs) 0 = some a := atI_nat (j := 0) rfl
theorem at_1 (a b : V) (xs : List V) : atI (a :: b :: xs) 1 = some b := atI_nat (j := 1) rfl
theorem at_2 (a b c : V) (xs : List V) : atI (a :: b :: c :: xs) 2 = some c := atI_nat (j := 2) rfl
theorem at_3 (a b c d : V) (xs : List V) : atI (a :: b :: c :: d :: xs) 3 = some d := atI_nat (j := 3) rfl
/-- what a test says of two numbers and three values -/
def Tst.tru (t : Tst) (x y : Nat) (vs : List Nat) : Bool := match t with
  | .ord .less => decide (x < y)
  | .ord .equal => decide (x = y)
  | .ord .more => decide (y < x)
  | .zero ax => decide ((if ax = true then x else y) = 0)
  | .holds v n => decide ((vs[v.j]?).getD 0 = n)
  | .rest ax m r => decide ((if ax = true then x else y) % m = r)
/-- an object that H does not know -/
theorem Kp.mut {b l : Addr} {H H' : Hp} {o : HO} (e : Kp b H H') (hl : H l = none) (n : l ≠ b) : Kp b H (L2.upd H' l o) := ⟨fun a u na h => by rw [upd_ne (ne_of_none h hl)]; exact e.kp a u na h, fun c r h => by
  obtain ⟨r', h'⟩ := e.inn c r h
  exact ⟨r', by rw [upd_ne n.symm]; exact h'⟩⟩
/-! the words, told apart by their numbers -/
def wordsL (i : Fin 7) : Str := match i with
  | 0 => "add"
  | 1 => "take"
  | 2 => "set"
  | 3 => "if"
  | 4 => "choose"
  | 5 => "go"
  | 6 => "stop"
def Lin.wi : Lin → Fin 7
  | .add _ => 0
  | .take _ => 1
  | .set _ _ => 2
  | .test _ _ => 3
  | .choose _ => 4
  | .go _ => 5
  | .stop _ => 6
theorem Lin.w_eq (l : Lin) : l.w = wordsL l.wi := by cases l <;> rfl
theorem wordsL_is : ∀ i j : Fin 7, decide (V.str (wordsL i) = V.str (wordsL j)) = decide (i = j) := by decide +kernel
theorem Lin.w_is (l : Lin) (j : Fin 7) : decide (V.str l.w = V.str (wordsL j)) = decide (l.wi = j) := by rw [l.w_eq]; exact wordsL_is _ _
theorem wordsL_in2 : ∀ i j k : Fin 7, inV (V.str (wordsL i)) [V.str (wordsL j), V.str (wordsL k)] = decide (i = j ∨ i = k) := by decide +kernel
theorem Lin.w_in2 (l : Lin) (j k : Fin 7) : inV (V.str l.w) [V.str (wordsL j), V.str (wordsL k)] = decide (l.wi = j ∨ l.wi = k) := by rw [l.w_eq]; exact wordsL_in2 _ _ _
theorem wordsL_in3 : ∀ i j k m : Fin 7, inV (V.str (wordsL i)) [V.str (wordsL j), V.str (wordsL k), V.str (wordsL m)] = decide (i = j ∨ i = k ∨ i = m) := by decide +kernel
theorem Lin.w_in3 (l : Lin) (j k m : Fin 7) : inV (V.str l.w) [V.str (wordsL j), V.str (wordsL k), V.str (wordsL m)] = decide (l.wi = j ∨ l.wi = k ∨ l.wi = m) := by rw [l.w_eq]; exact wordsL_in3 _ _ _ _
def wordsT (i : Fin 6) : Str := match i with
  | 0 => "less"
  | 1 => "equal"
  | 2 => "more"
  | 3 => "zero"
  | 4 => "holds"
  | 5 => "rest"
def Tst.wi : Tst → Fin 6
  | .ord .less => 0
  | .ord .equal => 1
  | .ord .more => 2
  | .zero _ => 3
  | .holds _ _ => 4
  | .rest _ _ _ => 5
theorem Tst.w_eq (t : Tst) : t.w = wordsT t.wi := by
  cases t with
  | ord o => cases o <;> rfl
  | _ => rfl
theorem wordsT_is : ∀ i j : Fin 6, decide (V.str (wordsT i) = V.str (wordsT j)) = decide (i = j) := by decide +kernel
theorem Tst.w_is (t : Tst) (j : Fin 6) : decide (V.str t.w = V.str (wordsT j)) = decide (t.wi = j) := by rw [t.w_eq]; exact wordsT_is _ _
theorem wordsT_in2 : ∀ i j k : Fin 6, inV (V.str (wordsT i)) [V.str (wordsT j), V.str (wordsT k)] = decide (i = j ∨ i = k) := by decide +kernel
theorem Tst.w_in2 (t : Tst) (j k : Fin 6) : inV (V.str t.w) [V.str (wordsT j), V.str (wordsT k)] = decide (t.wi = j ∨ t.wi = k) := by rw [t.w_eq]; exact wordsT_in2 _ _ _
theorem axS_x (ax : Bool) : decide (V.str (axS ax) = V.str "x") = ax := by cases ax <;> decide +kernel
theorem deN (i j : Nat) : decide (V.int (i : Int) = V.int (j : Int)) = decide (i = j) := by
  by_cases z : i = j
  · rw [decide_eq_true z, deq (by omega)]
  · rw [decide_eq_false z, dne (by omega)]
theorem v3_lt (v : V3) : v.j < 3 := by cases v <;> decide
theorem v3_get {vs : List Nat} (h : vs.length = 3) (v : V3) : (vs.map fun n : Nat => V.int (n : Int))[v.j]? = some (.int (((vs[v.j]?).getD 0 : Nat) : Int)) := by
  have hj := v3_lt v
  rw [List.getElem?_map, List.getElem?_eq_getElem (by omega)]
  rfl
theorem v3_at (v : V3) : ([V.str "a", V.str "b", V.str "c"] : List V)[v.j]? = some (V.str v.s) := by cases v <;> rfl
theorem v3_eq (v : V3) : eqV (V.str v.s) (V.str v.s) = true := by cases v <;> decide +kernel
theorem v3_idx (v : V3) : ∀ (m : Nat) (z' : V), m < v.j → ([V.str "a", V.str "b", V.str "c"] : List V)[m]? = some z' → eqV z' (V.str v.s) = false := by
  intro m z hm hz
  cases v with
  | a => exact absurd hm (Nat.not_lt_zero _)
  | b =>
    have : m < 1 := hm
    obtain rfl : m = 0 := by omega
    cases hz
    decide +kernel
  | c =>
    have : m < 2 := hm
    have : m = 0 ∨ m = 1 := by omega
    rcases this with rfl | rfl
    · cases hz
      decide +kernel
    · cases hz
      decide +kernel
theorem nwTo {n j : Nat} (h : j < n) : ¬ (HT.sIx n 0 none = 0 ∧ HT.sIx n n (some (j : Int)) = n) := fun z => by
  have := z.2
  rw [HT.sIx_nat] at this
  omega
theorem nwFrom {n j : Nat} (h : 0 < j) (hn : 0 < n) : ¬ (HT.sIx n 0 (some (j : Int)) = 0 ∧ HT.sIx n n none = n) := fun z => by
  have := z.1
  rw [HT.sIx_nat] at this
  omega
theorem set_cut {vs : List Nat} {j n : Nat} (h : j < vs.length) : (vs.map fun n : Nat => V.int (n : Int)).take j ++ [V.int (n : Int)] ++ (vs.map fun n : Nat => V.int (n : Int)).drop (j + 1) = (vs.set j n).map fun n : Nat => V.int (n : Int) := by
  rw [List.set_eq_take_append_cons_drop, if_pos h, List.map_append, List.map_cons, List.map_take, List.map_drop]
  simp
theorem lin_at {K : PySem.W.Frag} {H : Hp} {us : List V} {ls : List Lin} {i : Nat} {z : V} (hA : DpAll K H us (ls.map Lin.d)) (hz : us[i]? = some z) : ∃ l, ls[i]? = some l ∧ Dp K H z l.d := by
  obtain ⟨d, hd, h⟩ := DpAll.get hA hz
  rw [List.getElem?_map] at hd
  obtain ⟨l, hl, rfl⟩ := Option.map_eq_some_iff.mp hd
  exact ⟨l, hl, h⟩
theorem free_same {H H' : Hp} {p : Addr} (e : Same H H') (h : H' p = none) : H p = none := by
  cases q : H p with
  | none => rfl
  | some o => rw [e _ _ q] at h; cases h
theorem v3_sat (v : V3) : (["a", "b", "c"] : List Str)[v.j]? = some v.s := by cases v <;> rfl
theorem v3_sne (v : V3) : ∀ m, m < v.j → (["a", "b", "c"] : List Str)[m]? ≠ some v.s := by
  intro m hm hz
  cases v with
  | a => exact absurd hm (Nat.not_lt_zero _)
  | b =>
    have : m < 1 := hm
    obtain rfl : m = 0 := by omega
    exact absurd (Option.some.inj hz) (by decide +kernel)
  | c =>
    have : m < 2 := hm
    have : m = 0 ∨ m = 1 := by omega
    rcases this with rfl | rfl
    · exact absurd (Option.some.inj hz) (by decide +kernel)
    · exact absurd (Option.some.inj hz) (by decide +kernel)
end Bx
-- needs prog clsrules clsint
/-! a program in the heap -/
namespace Bx
open PySem PySem.Spec PyProof.Rows L2
/-- an instance that holds its rows: a tuple of the values us, the lines ls -/
structure ProgAt (K : PySem.W.Frag) (H : Hp) (p : Addr) (us : List V) (ls : List Lin) : Prop where
  ex : ∃ dx rp, H p = some (.ins (He.ga K "Program") dx [("rows", .ref rp)]) ∧ H dx = some (.own p) ∧ SqT K H rp us
  dp : DpAll K H us (ls.map Lin.d)
  ok : ∀ x ∈ ls, x.Ok ls.length
  l0 : 0 < ls.length
  l1 : ls.length ≤ 60
theorem ProgAt.len {K : PySem.W.Frag} {H : Hp} {p : Addr} {us : List V} {ls : List Lin} (h : ProgAt K H p us ls) : us.length = ls.length := by
  have := DpAll.length h.dp
  rw [List.length_map] at this
  exact this
theorem ProgAt.same {K : PySem.W.Frag} {H H' : Hp} {p : Addr} {us : List V} {ls : List Lin} (e : Same H H') (h : ProgAt K H p us ls) : ProgAt K H' p us ls := by
  obtain ⟨dx, rp, h1, h2, h3⟩ := h.ex
  exact ⟨⟨dx, rp, e _ _ h1, e _ _ h2, seqT e h3⟩, Dp.sameAll e h.dp, h.ok, h.l0, h.l1⟩
theorem ProgAt.sameT {K : PySem.W.Frag} {H H' : Hp} {p : Addr} {us : List V} {ls : List Lin} (e : SameT H H') (h : ProgAt K H p us ls) : ProgAt K H' p us ls := by
  obtain ⟨dx, rp, h1, h2, h3⟩ := h.ex
  exact ⟨⟨dx, rp, e _ _ h1 (fun _ z => by cases z), e _ _ h2 (fun _ z => by cases z), e.seqT h3⟩, Dp.sameTs e (lin_nls ls) h.dp, h.ok, h.l0, h.l1⟩
end Bx
-- needs lang numb
/-! the least table -/
namespace Bx
open PySem PySem.Spec PyProof.Rows L2
/-- the first spot of a class -/
def spF (f : Nat → Nat) (N c : Nat) : Nat := ((List.range N).find? fun p => decide (f p = c)).getD 0
theorem spF_of {f : Nat → Nat} {N i : Nat} (hi : i < N) : spF f N (f i) < N ∧ f (spF f N (f i)) = f i := by
  unfold spF
  cases h : (List.range N).find? fun p => decide (f p = f i) with
  | none =>
    have := List.find?_eq_none.mp h i (List.mem_range.mpr hi)
    exact absurd (decide_eq_true rfl) this
  | some p =>
    have h1 := List.find?_some h
    have h2 := List.mem_of_find?_eq_some h
    exact ⟨List.mem_range.mp h2, of_decide_eq_true h1⟩
/-- one turn of the walk over the classes -/
def ordS (t : Tb) (f : Nat → Nat) (o : List Nat) (k : Nat) : List Nat := match o[k]? with
  | some c => fstep (fstep o (f (goT t (spF f t.rows.length c) true))) (f (goT t (spF f t.rows.length c) false))
  | none => o
def ordK (t : Tb) (f : Nat → Nat) (o : List Nat) : Nat → List Nat
  | 0 => o
  | k + 1 => ordS t f (ordK t f o k) k
/-- f is a periodic list's period -/
def perd {α : Type} (l : List α) (s : Nat) : Prop := ∀ i, i < l.length → l[i]? = l[i % s]?
structure Fits (t : Tb) (f : Nat → Nat) (s : Nat) : Prop where
  dv : s ∣ t.m
  fl : perd t.flats s
  sl : perd t.steeps s
  bl : perd (t.starts.map f) s
def mods : List Nat := [1, 2, 3, 6]
structure Sz (t : Tb) (f : Nat → Nat) (s : Nat) : Prop where
  md : s ∈ mods
  ft : Fits t f s
  ls : ∀ s' ∈ mods, s' < s → ¬ Fits t f s'
def begF (t : Tb) (f : Nat → Nat) (s : Nat) : List Nat := (t.starts.map f).take s
def ordF (t : Tb) (f : Nat → Nat) (s : Nat) : List Nat := ordK t f (firsts (begF t f s)) t.rows.length
def rowF (t : Tb) (f : Nat → Nat) (o : List Nat) (c : Nat) : Nat × Nat × Bool :=
  (idxK o (f (goT t (spF f t.rows.length c) true)), idxK o (f (goT t (spF f t.rows.length c) false)), goodT t (spF f t.rows.length c))
def leastF (t : Tb) (f : Nat → Nat) (s : Nat) : Tb :=
  ⟨s, t.flats.take s, t.steeps.take s, (begF t f s).map (idxK (ordF t f s)), (ordF t f s).map (rowF t f (ordF t f s))⟩
/-! the walk's lists: without doubles, below the number of spots, closed -/
theorem fstep_mem {κ : Type} [DecidableEq κ] {acc : List κ} {k x : κ} : x ∈ fstep acc k ↔ x ∈ acc ∨ x = k := by
  unfold fstep
  split
  · exact ⟨.inl, fun h => h.elim id fun e => e ▸ by assumption⟩
  · rw [List.mem_append, List.mem_singleton]
theorem fstep_nodup {κ : Type} [DecidableEq κ] {acc : List κ} {k : κ} (h : acc.Nodup) : (fstep acc k).Nodup := by
  unfold fstep
  split
  · exact h
  · rename_i hk
    rw [List.nodup_append]
    exact ⟨h, List.nodup_cons.mpr ⟨List.not_mem_nil, List.nodup_nil⟩, fun a ha b hb e => hk (by rw [← List.mem_singleton.mp hb, ← e]; exact ha)⟩
theorem fstep_pre {κ : Type} [DecidableEq κ] (acc : List κ) (k : κ) : acc <+: fstep acc k := by
  unfold fstep
  split
  · exact List.prefix_refl _
  · exact List.prefix_append _ _
theorem firsts_nodup {κ : Type} [DecidableEq κ] : ∀ (ks acc : List κ), acc.Nodup → (ks.foldl fstep acc).Nodup
  | [], _, h => h
  | k :: ks, _, h => firsts_nodup ks _ (fstep_nodup h)
theorem firsts_sub {κ : Type} [DecidableEq κ] {x : κ} : ∀ (ks acc : List κ), x ∈ ks.foldl fstep acc → x ∈ acc ∨ x ∈ ks
  | [], _, h => .inl h
  | k :: ks, acc, h => by
    rcases firsts_sub ks _ h with e | e
    · rcases fstep_mem.mp e with e | e
      · exact .inl e
      · exact .inr (by rw [e]; exact List.mem_cons_self)
    · exact .inr (List.mem_cons_of_mem _ e)
theorem nodup_len : ∀ (N : Nat) (l : List Nat), l.Nodup → (∀ x ∈ l, x < N) → l.length ≤ N
  | 0, l, _, h => by
    cases l with
    | nil => exact Nat.le_refl _
    | cons x l => exact absurd (h x List.mem_cons_self) (Nat.not_lt_zero _)
  | N + 1, l, hn, h => by
    by_cases hm : N ∈ l
    · have h1 := nodup_len N (l.erase N) (hn.erase N) fun x hx => by
        have hx2 := (hn.mem_erase_iff).mp hx
        have := h x hx2.2
        have := hx2.1
        omega
      rw [List.length_erase_of_mem hm] at h1
      omega
    · have h1 := nodup_len N l hn fun x hx => by
        have := h x hx
        have : x ≠ N := fun e => hm (e ▸ hx)
        omega
      omega
structure Ordl (t : Tb) (f : Nat → Nat) (o : List Nat) : Prop where
  nd : o.Nodup
  im : ∀ c ∈ o, ∃ i, i < t.rows.length ∧ f i = c
theorem Ordl.step {t : Tb} {f : Nat → Nat} {o : List Nat} (h : Ordl t f o) {i : Nat} (hi : i < t.rows.length) : Ordl t f (fstep o (f i)) :=
  ⟨fstep_nodup h.nd, fun c hc => (fstep_mem.mp hc).elim (h.im c) fun e => ⟨i, hi, e.symm⟩⟩
theorem Ordl.len {t : Tb} {f : Nat → Nat} {o : List Nat} (h : Ordl t f o) (hf : Cls t f) : o.length ≤ t.rows.length :=
  nodup_len _ _ h.nd fun x hx => by
    obtain ⟨i, hi, e⟩ := h.im x hx
    rw [← e]
    exact hf.lt hi
theorem Ordl.sp {t : Tb} {f : Nat → Nat} {o : List Nat} (h : Ordl t f o) {c : Nat} (hc : c ∈ o) : spF f t.rows.length c < t.rows.length ∧ f (spF f t.rows.length c) = c := by
  obtain ⟨i, hi, e⟩ := h.im c hc
  have := spF_of (f := f) hi
  rw [e] at this
  exact this
theorem Ordl.ordS {t : Tb} {f : Nat → Nat} {o : List Nat} (h : Ordl t f o) (ok : Tok t) (k : Nat) : Ordl t f (ordS t f o k) := by
  unfold Bx.ordS
  cases e : o[k]? with
  | none => exact h
  | some c =>
    have hs := (h.sp (List.mem_of_getElem? e)).1
    exact (h.step (goT_lt ok hs true)).step (goT_lt ok hs false)
theorem Ordl.ordK {t : Tb} {f : Nat → Nat} {o : List Nat} (h : Ordl t f o) (ok : Tok t) : ∀ k, Ordl t f (ordK t f o k)
  | 0 => h
  | k + 1 => (h.ordK ok k).ordS ok k
theorem ordS_pre (t : Tb) (f : Nat → Nat) (o : List Nat) (k : Nat) : o <+: ordS t f o k := by
  unfold ordS
  split
  · exact (fstep_pre _ _).trans (fstep_pre _ _)
  · exact List.prefix_refl _
theorem ordK_pre (t : Tb) (f : Nat → Nat) (o : List Nat) (k : Nat) : ∀ j, ordK t f o k <+: ordK t f o (k + j)
  | 0 => List.prefix_refl _
  | j + 1 => (ordK_pre t f o k j).trans (ordS_pre _ _ _ _)
theorem ordK_stop {t : Tb} {f : Nat → Nat} {o : List Nat} {k : Nat} (h : (ordK t f o k).length ≤ k) : ∀ j, ordK t f o (k + j) = ordK t f o k
  | 0 => rfl
  | j + 1 => by
    have ih := ordK_stop h j
    show ordS t f (ordK t f o (k + j)) (k + j) = _
    rw [ih]
    unfold ordS
    rw [List.getElem?_eq_none (by omega)]
theorem ordK_end {t : Tb} {f : Nat → Nat} {o : List Nat} (h : Ordl t f o) (ok : Tok t) (hf : Cls t f) {k : Nat} (hk : (ordK t f o k).length ≤ k) : ordK t f o k = ordK t f o t.rows.length := by
  by_cases hN : k ≤ t.rows.length
  · obtain ⟨j, hj⟩ : ∃ j, t.rows.length = k + j := ⟨t.rows.length - k, by omega⟩
    rw [hj, ordK_stop hk j]
  · have hl := (h.ordK ok t.rows.length).len hf
    have e := ordK_stop hl (k - t.rows.length)
    rw [show t.rows.length + (k - t.rows.length) = k by omega] at e
    exact e
/-- closed: the followers of each class are there -/
theorem ordK_closed {t : Tb} {f : Nat → Nat} {o : List Nat} (h : Ordl t f o) (ok : Tok t) (hf : Cls t f) {c : Nat} (hc : c ∈ ordK t f o t.rows.length) (b : Bool) : f (goT t (spF f t.rows.length c) b) ∈ ordK t f o t.rows.length := by
  obtain ⟨k, hk⟩ := List.getElem?_of_mem hc
  have hkl := (List.getElem?_eq_some_iff.mp hk).1
  have hl := (h.ordK ok t.rows.length).len hf
  have hkN : k < t.rows.length := by omega
  obtain ⟨j, hj⟩ : ∃ j, t.rows.length = k + 1 + j := ⟨t.rows.length - (k + 1), by omega⟩
  have hlt : k < (ordK t f o k).length := by
    by_cases z : k < (ordK t f o k).length
    · exact z
    · exfalso
      have e := ordK_end h ok hf (k := k) (by omega)
      rw [← e] at hkl
      omega
  have e1 : (ordK t f o k)[k]? = some c := by
    have p := ordK_pre t f o k (1 + j)
    rw [show k + (1 + j) = t.rows.length by omega] at p
    obtain ⟨r, hr⟩ := p
    rw [← hr, List.getElem?_append_left hlt] at hk
    exact hk
  have e2 : f (goT t (spF f t.rows.length c) b) ∈ ordK t f o (k + 1) := by
    show _ ∈ ordS t f (ordK t f o k) k
    unfold ordS
    rw [e1]
    cases b
    · exact fstep_mem.mpr (.inr rfl)
    · exact fstep_mem.mpr (.inl (fstep_mem.mpr (.inr rfl)))
  have p := ordK_pre t f o (k + 1) j
  rw [← hj] at p
  exact p.subset e2
theorem ordl_firsts {t : Tb} {f : Nat → Nat} {s : Nat} (ok : Tok t) : Ordl t f (firsts (begF t f s)) := by
  refine ⟨firsts_nodup _ _ List.nodup_nil, fun c hc => ?_⟩
  rcases firsts_sub _ _ hc with e | e
  · exact absurd e List.not_mem_nil
  · obtain ⟨i, hi, e2⟩ := List.mem_map.mp (List.mem_of_mem_take e)
    exact ⟨i, ok.st i hi, e2⟩
section
variable {t : Tb} {f : Nat → Nat} {s : Nat}
theorem ordF_l (ok : Tok t) : Ordl t f (ordF t f s) := (ordl_firsts ok).ordK ok _
theorem ordF_beg {c : Nat} (h : c ∈ begF t f s) : c ∈ ordF t f s := by
  have p := ordK_pre t f (firsts (begF t f s)) 0 t.rows.length
  rw [Nat.zero_add] at p
  exact p.subset (firsts_mem h)
theorem idx_lt {l : List Nat} {c : Nat} (h : c ∈ l) : idxK l c < l.length := List.idxOf_lt_length_of_mem h
theorem idx_get {l : List Nat} {c : Nat} (h : c ∈ l) : l[idxK l c]? = some c := by
  have h1 := List.idxOf_lt_length_of_mem h
  unfold idxK
  rw [List.getElem?_eq_getElem h1, List.getElem_idxOf h1]
theorem leastF_go (ok : Tok t) (hf : Cls t f) {i : Nat} (hi : i < t.rows.length) (hm : f i ∈ ordF t f s) (b : Bool) :
    goT (leastF t f s) (idxK (ordF t f s) (f i)) b = idxK (ordF t f s) (f (goT t i b)) ∧ f (goT t i b) ∈ ordF t f s := by
  have hs := (ordF_l (s := s) ok).sp hm
  have e := fun b => hf.go ok hs.1 hi hs.2 b
  refine ⟨?_, ?_⟩
  · unfold goT leastF
    dsimp only
    rw [List.getElem?_map, idx_get hm]
    show (if b then (rowF t f (ordF t f s) (f i)).1 else (rowF t f (ordF t f s) (f i)).2.1) = _
    cases b
    · show idxK _ _ = _
      rw [e false]
      rfl
    · show idxK _ _ = _
      rw [e true]
      rfl
  · rw [← e b]
    exact ordK_closed (ordl_firsts ok) ok hf hm b
theorem leastF_good (ok : Tok t) (hf : Cls t f) {i : Nat} (hi : i < t.rows.length) (hm : f i ∈ ordF t f s) :
    goodT (leastF t f s) (idxK (ordF t f s) (f i)) = goodT t i := by
  have hs := (ordF_l (s := s) ok).sp hm
  have e := hf.good hs.1 hi hs.2
  rw [← e]
  show (match (leastF t f s).rows[idxK (ordF t f s) (f i)]? with | some r => r.2.2 | none => false) = _
  unfold leastF
  dsimp only
  rw [List.getElem?_map, idx_get hm]
  rfl
theorem perd_take {α : Type} {l : List α} {m s g : Nat} (hl : l.length = m) (hs : 0 < s) (hd : s ∣ m) (hm : 0 < m) (h : perd l s) : (l.take s)[g % s]? = l[g % m]? := by
  rw [h (g % m) (by rw [hl]; exact Nat.mod_lt _ hm), Nat.mod_mod_of_dvd _ hd, List.getElem?_take, if_pos (Nat.mod_lt _ hs)]
theorem mods_pos (h : s ∈ mods) : 0 < s ∧ (s = 1 ∨ s = 2 ∨ s = 3 ∨ s = 6) := by
  unfold mods at h
  simp only [List.mem_cons, List.not_mem_nil, or_false] at h
  omega
theorem Sz.le (ok : Tok t) (hs : Sz t f s) : s ≤ t.m := Nat.le_of_dvd ok.m0.1 hs.ft.dv
theorem leastF_ok (ok : Tok t) (hf : Cls t f) (hs : Sz t f s) : Tok (leastF t f s) := by
  have sp := mods_pos hs.md
  have sle := hs.le ok
  have lb : (begF t f s).length = s := by
    unfold begF
    rw [List.length_take, List.length_map, ok.tl]
    omega
  have ol := ordF_l (f := f) (s := s) ok
  have oln := ol.len hf
  have r1 := ok.r1
  have lr : (leastF t f s).rows.length = (ordF t f s).length := by
    show ((ordF t f s).map _).length = _
    rw [List.length_map]
  refine ⟨sp.2, ?_, ?_, ?_, ?_, ?_, ?_, ?_, ?_⟩
  · show (t.flats.take s).length = s
    rw [List.length_take, ok.fl]
    omega
  · show (t.steeps.take s).length = s
    rw [List.length_take, ok.sl]
    omega
  · show ((begF t f s).map _).length = s
    rw [List.length_map, lb]
  · rw [lr]
    have h0 : 0 < (begF t f s).length := by omega
    exact List.length_pos_of_mem (ordF_beg (List.getElem_mem h0))
  · rw [lr]
    omega
  · intro x hx
    obtain ⟨c, hc, rfl⟩ := List.mem_map.mp hx
    rw [lr]
    exact idx_lt (ordF_beg hc)
  · intro r hr
    obtain ⟨c, hc, rfl⟩ := List.mem_map.mp hr
    rw [lr]
    exact idx_lt (ordK_closed (ordl_firsts ok) ok hf hc true)
  · intro r hr
    obtain ⟨c, hc, rfl⟩ := List.mem_map.mp hr
    rw [lr]
    exact idx_lt (ordK_closed (ordl_firsts ok) ok hf hc false)
theorem leastF_goN (ok : Tok t) (hf : Cls t f) (b : Bool) : ∀ (n i : Nat), i < t.rows.length → f i ∈ ordF t f s →
    goN (leastF t f s) b n (idxK (ordF t f s) (f i)) = idxK (ordF t f s) (f (goN t b n i)) ∧ f (goN t b n i) ∈ ordF t f s ∧ goN t b n i < t.rows.length
  | 0, i, hi, hm => ⟨rfl, hm, hi⟩
  | n + 1, i, hi, hm => by
    have h1 := leastF_go ok hf hi hm b
    have h2 := leastF_goN ok hf b n (goT t i b) (goT_lt ok hi b) h1.2
    show goN _ b n (goT _ _ b) = _ ∧ _
    rw [h1.1]
    exact h2
theorem leastF_fold (ok : Tok t) (hf : Cls t f) : ∀ (l : List (Bool × Nat)) (i : Nat), i < t.rows.length → f i ∈ ordF t f s →
    goodT (leastF t f s) (l.foldl (fun q r => goN (leastF t f s) r.1 r.2 q) (idxK (ordF t f s) (f i))) = goodT t (l.foldl (fun q r => goN t r.1 r.2 q) i)
  | [], i, hi, hm => leastF_good ok hf hi hm
  | r :: l, i, hi, hm => by
    have h1 := leastF_goN (s := s) ok hf r.1 r.2 i hi hm
    rw [List.foldl_cons, List.foldl_cons, h1.1]
    exact leastF_fold ok hf l _ h1.2.2 h1.2.1
theorem leastF_beg (ok : Tok t) (hs : Sz t f s) (g : Nat) : begT (leastF t f s) g = idxK (ordF t f s) (f (begT t g)) ∧ f (begT t g) ∈ ordF t f s ∧ begT t g < t.rows.length := by
  have sp := mods_pos hs.md
  have m0 := ok.m0.1
  have hg : g % t.m < t.starts.length := by rw [ok.tl]; exact Nat.mod_lt _ m0
  have e1 : t.starts[g % t.m]? = some (begT t g) := by
    unfold begT
    rw [List.getElem?_eq_getElem hg]
    rfl
  have e2 : (begF t f s)[g % s]? = some (f (begT t g)) := by
    unfold begF
    rw [perd_take (by rw [List.length_map, ok.tl]) sp.1 hs.ft.dv m0 hs.ft.bl, List.getElem?_map, e1]
    rfl
  refine ⟨?_, ordF_beg (List.mem_of_getElem? e2), ok.st _ (List.mem_of_getElem? e1)⟩
  show (((begF t f s).map (idxK (ordF t f s)))[g % s]?).getD 0 = _
  rw [List.getElem?_map, e2]
  rfl
/-- the least table tells the same set -/
theorem leastF_has (ok : Tok t) (hf : Cls t f) (hs : Sz t f s) (x y : Nat) : hasT (leastF t f s) x y = hasT t x y := by
  have sp := mods_pos hs.md
  have m0 := ok.m0.1
  unfold hasT
  by_cases hy : y = 0
  · rw [if_pos hy, if_pos hy]
    show ((t.flats.take s)[Nat.gcd x y % s]?).getD false = _
    rw [perd_take ok.fl sp.1 hs.ft.dv m0 hs.ft.fl]
  · rw [if_neg hy, if_neg hy]
    by_cases hx : x = 0
    · rw [if_pos hx, if_pos hx]
      show ((t.steeps.take s)[Nat.gcd x y % s]?).getD false = _
      rw [perd_take ok.sl sp.1 hs.ft.dv m0 hs.ft.sl]
    · rw [if_neg hx, if_neg hx]
      have h := leastF_beg ok hs (Nat.gcd x y)
      rw [h.1]
      exact leastF_fold ok hf _ _ h.2.2 h.2.1
end
end Bx
-- needs tables least
/-! == of lists and tuples of plain things; the least modulus -/
namespace Bx
open PySem PySem.Spec PyProof.Rows L2
theorem eqvAll_map {α : Type} [DecidableEq α] {f : α → PyData} (h : ∀ x y, PyData.eqv (f x) (f y) = decide (x = y)) : ∀ l m : List α, PyData.eqvAll (l.map f) (m.map f) = decide (l = m)
  | [], [] => by simp [PyData.eqvAll]
  | [], _ :: _ => by simp [PyData.eqvAll]
  | _ :: _, [] => by simp [PyData.eqvAll]
  | x :: l, y :: m => by
    have ih := eqvAll_map h l m
    rw [List.map_cons, List.map_cons]
    simp only [PyData.eqvAll, h, ih]
    by_cases e : x = y
    · by_cases e2 : l = m
      · simp [e, e2]
      · simp [e, e2]
    · simp [e]
theorem eqv_intN (x y : Nat) : PyData.eqv (.int (x : Int)) (.int (y : Int)) = decide (x = y) := by
  rw [PyData.eqv, Bool.eq_iff_iff, beq_iff_eq, decide_eq_true_iff]
  exact Int.ofNat_inj
theorem eqv_boolB (x y : Bool) : PyData.eqv (.bool x) (.bool y) = decide (x = y) := by
  cases x <;> cases y <;> simp [PyData.eqv]
theorem canLay_m {α : Type} {f : α → PyData} (h : ∀ x, (f x).canLay0 = true) : ∀ l : List α, PyData.canLayAll0 (l.map f) = true
  | [] => by rw [List.map_nil, PyData.canLayAll0]
  | x :: l => by rw [List.map_cons, PyData.canLayAll0, h x, canLay_m h l]; rfl
theorem shp_list {α : Type} {f : α → PyData} {n : Nat} (h : ∀ x, (f x).canLay0 = true) (d : ∀ x, (f x).depth ≤ n) (hn : n ≤ 63) (l : List α) : SeqAt.shaped (.list (l.map f)) = true := by
  unfold SeqAt.shaped
  have h2 : (PyData.list (l.map f)).canLay0 = true := by
    rw [PyData.canLay0]
    exact canLay_m h l
  have h3 := depthAll_map d l
  have h4 : (PyData.list (l.map f)).depth ≤ 64 := by
    show PyData.depthAll (l.map f) + 1 ≤ 64
    omega
  rw [h2, decide_eq_true h4]
  rfl
theorem shp_tup {α : Type} {f : α → PyData} {n : Nat} (h : ∀ x, (f x).canLay0 = true) (d : ∀ x, (f x).depth ≤ n) (hn : n ≤ 63) (l : List α) : SeqAt.shaped (.tuple (l.map f)) = true := by
  unfold SeqAt.shaped
  have h2 : (PyData.tuple (l.map f)).canLay0 = true := by
    rw [PyData.canLay0]
    exact canLay_m h l
  have h3 := depthAll_map d l
  have h4 : (PyData.tuple (l.map f)).depth ≤ 64 := by
    show PyData.depthAll (l.map f) + 1 ≤ 64
    omega
  rw [h2, decide_eq_true h4]
  rfl
theorem shp_ints (l : List Nat) : SeqAt.shaped (.list (l.map fun n : Nat => PyData.int (n : Int))) = true := shp_list (n := 0) (fun _ => rfl) (fun _ => Nat.le_refl _) (by decide) l
/-- part[:s] * k -/
def repL {α : Type} (l : List α) (s k : Nat) : List α := (List.replicate k (l.take s)).flatten
theorem repL_map {α β : Type} (f : α → β) (l : List α) (s k : Nat) : repL (l.map f) s k = (repL l s k).map f := by
  unfold repL
  rw [List.map_flatten, List.map_replicate, List.map_take]
theorem rep_get {α : Type} {x : List α} {s : Nat} (hs : x.length = s) (h0 : 0 < s) : ∀ (k i : Nat), i < k * s → (List.replicate k x).flatten[i]? = x[i % s]?
  | 0, i, h => by omega
  | k + 1, i, h => by
    rw [List.replicate_succ, List.flatten_cons]
    have hk : (k + 1) * s = k * s + s := Nat.succ_mul k s
    by_cases hi : i < s
    · rw [List.getElem?_append_left (by omega), Nat.mod_eq_of_lt hi]
    · have e : i % s = (i - s) % s := Nat.mod_eq_sub_mod (by omega)
      rw [List.getElem?_append_right (by omega), hs, rep_get hs h0 k (i - s) (by omega), e]
theorem repL_iff {α : Type} {l : List α} {s k : Nat} (h0 : 0 < s) (hl : l.length = k * s) (hk : 0 < k) : l = repL l s k ↔ perd l s := by
  have hsl : (l.take s).length = s := by
    rw [List.length_take, hl]
    have : s ≤ k * s := Nat.le_mul_of_pos_left _ hk
    omega
  have hlen : (repL l s k).length = k * s := by
    unfold repL
    rw [List.length_flatten, List.map_replicate, List.sum_replicate_nat, hsl]
  have hg : ∀ i, i < k * s → (repL l s k)[i]? = l[i % s]? := fun i hi => by
    unfold repL
    rw [rep_get hsl h0 k i hi, List.getElem?_take, if_pos (Nat.mod_lt _ h0)]
  constructor
  · intro e i hi
    rw [hl] at hi
    rw [← hg i hi, ← e]
  · intro p
    apply List.ext_getElem?
    intro i
    by_cases hi : i < k * s
    · rw [hg i hi, p i (by rw [hl]; exact hi)]
    · rw [List.getElem?_eq_none (by omega), List.getElem?_eq_none (by omega)]
/-- the size fits all parts -/
def fitD (dss : List (List PyData)) (m s : Nat) : Bool := decide (m % s = 0) && dss.all fun ds => PyData.eqv (.tuple ds) (.tuple (repL ds s (m / s)))
def leastD (dss : List (List PyData)) (m : Nat) : Nat := (mods.find? (fitD dss m)).getD m
def partsD (t : Tb) (f : Nat → Nat) : List (List PyData) := [t.flats.map .bool, t.steeps.map .bool, (t.starts.map f).map fun n : Nat => PyData.int (n : Int)]
theorem fitD_iff {t : Tb} {f : Nat → Nat} {s : Nat} (ok : Tok t) (h0 : 0 < s) : fitD (partsD t f) t.m s = true ↔ Fits t f s := by
  have m0 := ok.m0.1
  unfold fitD
  rw [Bool.and_eq_true, decide_eq_true_iff]
  by_cases hd : t.m % s = 0
  rotate_left
  · constructor
    · intro h; exact absurd h.1 hd
    · intro h; exact absurd (Nat.mod_eq_zero_of_dvd h.dv) hd
  have dv : s ∣ t.m := Nat.dvd_of_mod_eq_zero hd
  have hk : 0 < t.m / s := Nat.div_pos (Nat.le_of_dvd m0 dv) h0
  have hm : t.m = t.m / s * s := (Nat.div_mul_cancel dv).symm
  have e : ∀ {α : Type} [DecidableEq α] {g : α → PyData} (_ : ∀ x y, PyData.eqv (g x) (g y) = decide (x = y)) (l : List α), l.length = t.m → (PyData.eqv (.tuple (l.map g)) (.tuple (repL (l.map g) s (t.m / s))) = true ↔ perd l s) := by
    intro α _ g hg l hl
    rw [repL_map, PyData.eqv, eqvAll_map hg, decide_eq_true_iff]
    exact repL_iff h0 (by rw [hl]; exact hm) hk
  unfold partsD
  simp only [List.all_cons, List.all_nil, Bool.and_true, Bool.and_eq_true]
  rw [e eqv_boolB _ ok.fl, e eqv_boolB _ ok.sl, e eqv_intN _ (by rw [List.length_map, ok.tl])]
  exact ⟨fun h => ⟨dv, h.2.1, h.2.2.1, h.2.2.2⟩, fun h => ⟨hd, h.fl, h.sl, h.bl⟩⟩
theorem leastD_sz {t : Tb} {f : Nat → Nat} (ok : Tok t) : Sz t f (leastD (partsD t f) t.m) := by
  have hp : ∀ s ∈ mods, 0 < s := fun s hs => (mods_pos hs).1
  have hmm : t.m ∈ mods := by
    unfold mods
    rcases ok.md with e | e | e | e <;> rw [e] <;> decide
  have hself : Fits t f t.m := ⟨Nat.dvd_refl _, fun i hi => by rw [Nat.mod_eq_of_lt (by rw [ok.fl] at hi; exact hi)], fun i hi => by rw [Nat.mod_eq_of_lt (by rw [ok.sl] at hi; exact hi)],
    fun i hi => by rw [Nat.mod_eq_of_lt (by rw [List.length_map, ok.tl] at hi; exact hi)]⟩
  unfold leastD
  cases h : mods.find? (fitD (partsD t f) t.m) with
  | none => exact absurd ((fitD_iff ok (hp _ hmm)).mpr hself) (List.find?_eq_none.mp h _ hmm)
  | some s =>
    have h1 := List.find?_some h
    have h2 := List.mem_of_find?_eq_some h
    refine ⟨h2, (fitD_iff ok (hp _ h2)).mp h1, fun s' hs' hlt hf => ?_⟩
    replace hlt : s' < s := hlt
    have hf' := (fitD_iff ok (hp _ hs')).mpr hf
    obtain ⟨-, as, bs, hE, hA⟩ := List.find?_eq_some_iff_append.mp h
    have hm : s' ∈ as := by
      have hs2 := hs'
      rw [hE, List.mem_append, List.mem_cons] at hs2
      rcases hs2 with z | z | z
      · exact z
      · omega
      · exfalso
        have sorted : mods.Pairwise (· < ·) := by unfold mods; decide
        rw [hE, List.pairwise_append] at sorted
        have := (List.pairwise_cons.mp sorted.2.1).1 s' z
        omega
    have := hA s' hm
    rw [hf'] at this
    cases this
end Bx
-- needs progat setS eqs
/-! programs as data: their shapes, their outcomes, their modulus -/
namespace Bx
open PySem PySem.Spec PyProof.Rows L2
def stopZ : Lin → Option Str
  | .stop z => some z
  | _ => none
/-- the names that the lines tell -/
def stopsL (ls : List Lin) : List Str := ls.filterMap stopZ
/-- the sorted names of the outcomes -/
structure OutsOf (ls : List Lin) (ys : List Str) : Prop where
  nd : ys.Nodup
  mem : ∀ z, z ∈ ys ↔ z = "below" ∨ z = "end" ∨ z ∈ stopsL ls
  so : sortedS ys = true
theorem OutsOf.uniq {ls : List Lin} {xs ys : List Str} (h : OutsOf ls xs) (k : OutsOf ls ys) : xs = ys := TxS.sorted_one h.so k.so (TxS.perm_same h.nd k.nd fun z => (h.mem z).trans (k.mem z).symm)
theorem stops_len : ∀ ls : List Lin, (stopsL ls).length ≤ ls.length
  | ls => List.length_filterMap_le _ _
theorem OutsOf.len {ls : List Lin} {ys : List Str} (h : OutsOf ls ys) : ys.length ≤ ls.length + 2 := by
  have key : ∀ (ys zs : List Str), ys.Nodup → (∀ z ∈ ys, z ∈ zs) → ys.length ≤ zs.length := by
    intro ys
    induction ys with
    | nil => exact fun _ _ _ => Nat.zero_le _
    | cons y ys ih =>
      intro zs nd sub
      have nd := List.nodup_cons.mp nd
      have hy := sub y List.mem_cons_self
      have := ih (zs.erase y) nd.2 fun z hz => (List.mem_erase_of_ne fun e => nd.1 (by rw [← e]; exact hz)).mpr (sub z (List.mem_cons_of_mem _ hz))
      rw [List.length_erase_of_mem hy] at this
      have p := List.length_pos_of_mem hy
      rw [List.length_cons]
      omega
  have := key ys ("below" :: "end" :: stopsL ls) h.nd fun z hz => by
    rcases (h.mem z).mp hz with e | e | e
    · rw [e]
      exact List.mem_cons_self
    · rw [e]
      exact List.mem_cons_of_mem _ List.mem_cons_self
    · exact List.mem_cons_of_mem _ (List.mem_cons_of_mem _ e)
  have h2 := stops_len ls
  simp only [List.length_cons] at this
  omega
/-- the modulus behind one more line -/
def modU (m : Nat) : Lin → Nat
  | .test (.rest _ m2 _) _ => if m % m2 = 0 then m else m * m2
  | _ => m
def modL (ls : List Lin) : Nat := ls.foldl modU 1
def Mod6 (m : Nat) : Prop := m = 1 ∨ m = 2 ∨ m = 3 ∨ m = 6
theorem modU_6 {m n : Nat} {l : Lin} (hm : Mod6 m) (hl : l.Ok n) : Mod6 (modU m l) := by
  cases l with
  | test t k =>
    cases t with
    | rest ax m2 r =>
      have h2 : m2 = 2 ∨ m2 = 3 := hl.1.1
      unfold Mod6 at hm ⊢
      rcases hm with rfl | rfl | rfl | rfl <;> rcases h2 with rfl | rfl <;> simp [modU]
    | _ => exact hm
  | _ => exact hm
theorem modF_6 {n : Nat} : ∀ (ls : List Lin) {m : Nat}, Mod6 m → (∀ x ∈ ls, x.Ok n) → Mod6 (ls.foldl modU m)
  | [], _, hm, _ => hm
  | l :: ls, _, hm, h => modF_6 ls (modU_6 hm (h l List.mem_cons_self)) fun x hx => h x (List.mem_cons_of_mem _ hx)
theorem modL_6 {n : Nat} {ls : List Lin} (h : ∀ x ∈ ls, x.Ok n) : Mod6 (modL ls) := modF_6 ls (.inl rfl) h
/-! shapes -/
theorem low_ok {z : Str} (h : nameB z = true) : PyData.strOk z = true := by
  unfold nameB at h
  rw [Bool.and_eq_true, Bool.and_eq_true] at h
  have h3 := List.all_eq_true.mp h.2
  unfold PyData.strOk
  rw [← Array.all_toList]
  refine List.all_eq_true.mpr fun c hc => ?_
  have := h3 c hc
  unfold lowB at this
  rw [Bool.and_eq_true] at this
  have := of_decide_eq_true this.2
  exact decide_eq_true (by omega)
theorem axS_ok (ax : Bool) : PyData.strOk (axS ax) = true := by cases ax <;> decide +kernel
theorem v3_ok (v : V3) : PyData.strOk v.s = true := by cases v <;> decide +kernel
theorem Tst.lay (t : Tst) : t.d.canLay0 = true := by
  cases t with
  | ord o => cases o <;> decide +kernel
  | zero ax => cases ax <;> decide +kernel
  | holds v n =>
    show PyData.canLayAll0 [.str "holds", .str v.s, .int (n : Int)] = true
    have e : (PyData.str v.s).canLay0 = true := v3_ok v
    have e2 : (PyData.str "holds").canLay0 = true := by decide +kernel
    rw [PyData.canLayAll0, e2, PyData.canLayAll0, e]
    rfl
  | rest ax m r =>
    show PyData.canLayAll0 [.str "rest", .str (axS ax), .int (m : Int), .int (r : Int)] = true
    have e : (PyData.str (axS ax)).canLay0 = true := axS_ok ax
    have e2 : (PyData.str "rest").canLay0 = true := by decide +kernel
    rw [PyData.canLayAll0, e2, PyData.canLayAll0, e]
    rfl
theorem Tst.dep (t : Tst) : t.d.depth ≤ 1 := by
  cases t <;> simp [Tst.d, Tst.ds, PyData.depth, PyData.depthAll]
theorem words_ok : ∀ i : Fin 7, (PyData.str (wordsL i)).canLay0 = true := by decide +kernel
theorem word_ok (l : Lin) : (PyData.str l.w).canLay0 = true := by rw [l.w_eq]; exact words_ok _
theorem Lin.lay {n : Nat} {l : Lin} (h : l.Ok n) : l.d.canLay0 = true := by
  have e0 := word_ok l
  show PyData.canLayAll0 (.str l.w :: l.ds) = true
  rw [PyData.canLayAll0, e0]
  cases l with
  | add ax =>
    have e : (PyData.str (axS ax)).canLay0 = true := axS_ok ax
    rw [Lin.ds, PyData.canLayAll0, e]
    rfl
  | take ax =>
    have e : (PyData.str (axS ax)).canLay0 = true := axS_ok ax
    rw [Lin.ds, PyData.canLayAll0, e]
    rfl
  | set v k =>
    have e : (PyData.str v.s).canLay0 = true := v3_ok v
    rw [Lin.ds, PyData.canLayAll0, e]
    rfl
  | test t k =>
    rw [Lin.ds, PyData.canLayAll0, t.lay]
    rfl
  | choose k => rfl
  | go k => rfl
  | stop z =>
    have e : (PyData.str z).canLay0 = true := low_ok h.1
    rw [Lin.ds, PyData.canLayAll0, e]
    rfl
theorem Lin.dep (l : Lin) : l.d.depth ≤ 2 := by
  cases l with
  | test t k =>
    have := t.dep
    simp only [Lin.d, Lin.ds, PyData.depth, PyData.depthAll]
    omega
  | _ => simp [Lin.d, Lin.ds, PyData.depth, PyData.depthAll]
theorem lins_lay {n : Nat} : ∀ (ls : List Lin), (∀ x ∈ ls, x.Ok n) → PyData.canLayAll0 (ls.map Lin.d) = true
  | [], _ => rfl
  | l :: ls, h => by
    rw [List.map_cons, PyData.canLayAll0, Lin.lay (h l List.mem_cons_self), lins_lay ls fun x hx => h x (List.mem_cons_of_mem _ hx)]
    rfl
theorem lins_dep : ∀ ls : List Lin, PyData.depthAll (ls.map Lin.d) ≤ 2
  | [] => Nat.zero_le _
  | l :: ls => by
    rw [List.map_cons, PyData.depthAll]
    exact Nat.max_le.mpr ⟨l.dep, lins_dep ls⟩
theorem lins_shpL {n : Nat} (ls : List Lin) (h : ∀ x ∈ ls, x.Ok n) : SeqAt.shaped (.list (ls.map Lin.d)) = true := by
  have d := lins_dep ls
  unfold SeqAt.shaped
  rw [Bool.and_eq_true]
  refine ⟨lins_lay ls h, decide_eq_true ?_⟩
  show PyData.depthAll (ls.map Lin.d) + 1 ≤ 64
  omega
theorem lins_shpT {n : Nat} (ls : List Lin) (h : ∀ x ∈ ls, x.Ok n) : SeqAt.shaped (.tuple (ls.map Lin.d)) = true := by
  have d := lins_dep ls
  unfold SeqAt.shaped
  rw [Bool.and_eq_true]
  refine ⟨lins_lay ls h, decide_eq_true ?_⟩
  show PyData.depthAll (ls.map Lin.d) + 1 ≤ 64
  omega
theorem Tst.sm (t : Tst) : smallD t.d = true := by cases t <;> rfl
theorem Lin.sm (l : Lin) : smallD l.d = true := by
  cases l with
  | test t k =>
    show (decide (3 ≤ 90000) && smallDs [.str "if", t.d, .int (k : Int)]) = true
    simp only [smallDs, t.sm, smallD]
    rfl
  | _ => rfl
theorem lins_sm : ∀ ls : List Lin, smallDs (ls.map Lin.d) = true
  | [] => rfl
  | l :: ls => by
    rw [List.map_cons, smallDs, l.sm, lins_sm ls]
    rfl
theorem lins_smL (ls : List Lin) (h : ls.length ≤ 90000) : smallD (.list (ls.map Lin.d)) = true := by
  rw [smallD, lins_sm, List.length_map, decide_eq_true h]
  rfl
theorem eqv_linsR {n : Nat} (ls : List Lin) (h : ∀ x ∈ ls, x.Ok n) : PyData.eqv (.list (ls.map Lin.d)) (.list (ls.map Lin.d)) = true := PySem.SeqAt.eqv_refl _ (by
  show PyData.canLayAll0 (ls.map Lin.d) = true
  exact lins_lay ls h)
/-- texts as data -/
theorem strs_dp (K : PySem.W.Frag) (H : Hp) : ∀ ys : List Str, DpAll K H (ys.map V.str) (ys.map PyData.str)
  | [] => .nil
  | y :: ys => .cons (.str y) (strs_dp K H ys)
theorem strs_dep : ∀ ys : List Str, PyData.depthAll (ys.map PyData.str) = 0
  | [] => rfl
  | y :: ys => by
    rw [List.map_cons, PyData.depthAll, strs_dep ys]
    rfl
theorem strs_sm : ∀ ys : List Str, smallDs (ys.map PyData.str) = true
  | [] => rfl
  | y :: ys => by
    rw [List.map_cons, smallDs, strs_sm ys]
    rfl
end Bx
-- imports HandS.Star PyProof.WalksMore PyProof.CollectIter PyProof.TupleIter HandS.ClsMeth HandS.HeadNt
/-! a, *b = a tuple -/
namespace Bx
open PySem PySem.Spec PyProof.Rows L2
section
variable {prog : Program} {w : World} {A : Around} {E : Value → Shared → Prop} {s : Shared}
theorem walks_tupFrom (hh : A.handled = none) (I ax : Addr) (hne : ax ≠ I) (items : Array Value) (k : Nat) (hk : k ≤ items.size) :
    Walks prog w A I [I, ax] [I] (items.size - k) (fun i v => items[k + i]? = some v) (fun i h => h.IsTupleIter I ax (k + i) ∧ h.IsTuple ax items) where
  sub := fun b hb => by simp at hb; simp [hb]
  frame := fun _ _ _ st hk => ⟨st.1.at fun o e => hk I (by simp) o e, st.2.at fun o e => hk ax (by simp) o e⟩
  item := fun i s Q E hi st hQ => by
    have hki : k + i < items.size := by omega
    refine wpAny_pyNext_tuple_item st.1 st.2 (x := items[k + i]) (by simp [hki]) fun h' hit' hs' => ?_
    exact hQ _ h' s.toks (by simp [hki]) ⟨hit', st.2.extBut hs'.extBut hne⟩ fun b o hb e => hs'.extBut b o (fun h => hb (by simp [h])) e
  done := fun s Q E st hQ => by
    refine wpAny_pyNext_tuple_end hh st.1 st.2 ?_ fun h' he' => hQ h' s.toks fun b o hb e => he' b o (fun h => hb (by simp [h])) e
    rw [show k + (items.size - k) = items.size by omega]
    simp
  self := fun _ _ _ _ st hQ => wpAny_pyIter_tupleiter st.1 hQ
theorem unpackItems_star1 {t : Addr} {items : Array Value} {x : Value} {xs : List Value} {Q : List Value → Shared → Prop} (hh : A.handled = none) (ht : s.heap.IsTuple t items) (hi : items.toList = x :: xs) (hz : items.size ≤ sizeLine)
    (hQ : ∀ (h' : Heap) (tk : Nat), (∀ b o, s.heap.get? b = some o → h'.get? b = some o) → s.toks ≤ tk → Q [x, .ref h'.objs.size] { s with heap := h'.push { cls := .type "list", data := .seq xs.toArray }, toks := tk }) :
    wpAny (model prog w) A (unpackItems (.ref t) 2 (some 1)) Q E s := by
  have hlt : t ≠ s.heap.objs.size := by obtain ⟨o, ho, _⟩ := ht; exact Nat.ne_of_lt (Heap.lt_size ho)
  have hsz : items.size = xs.length + 1 := by rw [← Array.length_toList, hi]; rfl
  unfold unpackItems
  refine wpAny_bind ?_
  unfold notIterableAtAll
  refine wpAny_bind (wpAny_specialOf ht.typeIs F.slot_tuple_iter.lookup ?_)
  refine wpAny_pure ?_
  simp only [Bool.false_eq_true, if_false]
  refine wpAny_bind (wpAny_holding (wpAny_pyIter_tuple ht ?_))
  refine wpAny_bind (wpAny_holding (wpAny_draw_tuple hlt 1 0 _ _ ⟨_, Heap.get?_push_size _ rfl, rfl, rfl⟩ (ht.push _) (by omega) fun h₁ hit₁ hs₁ => ?_))
  have hall : List.take 1 (List.drop 0 items.toList) = [x] := by rw [hi]; rfl
  rw [hall]
  rw [if_neg (by simp)]
  have ht₁ : h₁.IsTuple t items := (ht.push _).extBut hs₁.extBut hlt
  have hsize : s.heap.objs.size < h₁.objs.size := by
    obtain ⟨o, ho, _⟩ := hit₁
    exact Heap.lt_size ho
  obtain ⟨ot, hot, _⟩ := id ht₁
  refine wpAny_bind (wpAny_holding (wpAny_collect_iter (T := "tuple_iterator") (.inr (.inr (.inr rfl)))
    (walks_tupFrom (A := A.in1) hh s.heap.objs.size t hlt items 1 (by omega)).toS (fun _ _ st => let ⟨o, ho, hc, _⟩ := st.1; ⟨o, ho, hc⟩) ⟨hit₁, ht₁⟩ (fun b hb => ?_) (by simp) (fun s' acc hm hacc => ?_) (by omega)))
  · rcases List.mem_cons.mp hb with rfl | hb
    · exact hsize
    · rw [List.mem_singleton.mp hb]
      exact Heap.lt_size hot
  have ha : acc.toList = xs := by
    refine List.ext_getElem? fun j => ?_
    have h1 := hacc.1
    have e2 : xs[j]? = items[1 + j]? := by
      rw [← Array.getElem?_toList, hi, Nat.add_comm, List.getElem?_cons_succ]
    by_cases hj : j < acc.size
    · have e1 : acc.toList[j]? = some acc[j] := by simp [hj]
      have h2 := hacc.2 j acc[j] (by simp [hj])
      rw [e1, e2]
      exact h2.symm
    · rw [List.getElem?_eq_none (by simp; omega), e2, Array.getElem?_eq_none (by omega)]
  rw [ha]
  simp only [Nat.sub_self, Nat.not_lt_zero, if_false, Nat.sub_zero, List.take_length, List.drop_length, List.append_nil]
  have es : s' = { s with heap := s'.heap, toks := s'.toks } := by
    have g := hm.gens
    have d := hm.drawn
    have o := hm.os
    cases s'
    cases s
    simp_all
  refine wpAny_bind (wpAny_newList ?_ (by omega))
  refine wpAny_pure ?_
  have key := hQ s'.heap s'.toks (fun b o e => hm.heap b o (fun hb => ?_) (hs₁.extBut b o (fun h => ?_) (Heap.get?_push_of_some _ e))) hm.toks
  · rw [es]
    exact key
  · rw [List.mem_singleton.mp hb] at e
    exact absurd (Heap.lt_size e) (Nat.lt_irrefl _)
  · rw [h] at e
    exact absurd (Heap.lt_size e) (Nat.lt_irrefl _)
end
section
variable {X : Cx} {a b : Expr} {p pos : Pos} {k : Nat} {t : TGs}
/-- code that the proof never comes to -/
theorem pe_nev {e : Expr} : PE X e (fun _ _ _ => False) := ⟨fun _ _ _ _ _ _ h => h.elim⟩
/-- a, *b = a tuple -/
def gStar (K : PySem.W.Frag) (t : TGs) : TG := fun v σ H Q => ∃ a x xs, v = .ref a ∧ SqT K H a (x :: xs) ∧ ∀ l, H l = none → t [x, .ref l] σ (L2.upd H l (.lst xs)) Q
theorem pg_star (hc : X.calm = true) (h : PGs X [a, b] t)
    (h1 : assignEach [a, .Starred b p] X.env = [(false, assign a X.env), (true, assign b X.env)] := by rfl)
    (h2 : assignEach [a, b] X.env = [(false, assign a X.env), (false, assign b X.env)] := by rfl) : PG X (.Tuple [a, .Starred b p] k pos) (gStar X.K t) := by
  refine ⟨fun pins s σ H v u Q I r hw => ?_⟩
  obtain ⟨ad, x, xs, e1, hq, hw⟩ := hw
  subst e1
  cases r
  obtain ⟨its, rv, ht, hz⟩ := I.tuple hq
  rw [assign_Tuple, h1]
  refine wpAny_bind (wpAny_standAt ?_)
  unfold unpack
  cases rv with
  | cons r1 r2 =>
  rename_i u us
  refine wpAny_bind (wpAny_holding ?_)
  refine unpackItems_star1 (t := ad) (items := (u :: us).toArray) (x := u) (xs := us) (I.ok.hd hc) ht rfl (by have := r2.length; simp at hz ⊢; omega) fun h' tk hk htk => ?_
  have I1 : Inv X pins σ H { s with heap := h', toks := tk } := I.kept hk
  have hf : H h'.objs.size = none := I1.hok.fresh (Nat.le_refl _)
  have I2 : Inv X pins σ (L2.upd H h'.objs.size (.lst xs)) { s with heap := h'.push { cls := .type "list", data := .seq us.toArray }, toks := tk } := I1.laid (t' := tk) (fun b u e => Heap.get?_push_of_some _ e) (Nat.le_refl _) ⟨by simp at hz; omega, us, 0, r2, Heap.get?_push_size _ rfl⟩
  have := h.run pins _ σ _ [x, .ref h'.objs.size] [u, .ref h'.objs.size] Q I2 (.cons r1 (.cons rfl .nil)) (hw _ hf)
  rw [h2] at this
  exact this
end
end Bx
-- needs lists
-- imports KE.GoesEnum KE.GoesMore HandS.Iter HandS.Walk
/-! enumerate over a tuple -/
namespace Bx
section
open PySem
set_option maxHeartbeats 1000000 in
theorem meets_enum1 {v : Value} {o : Obj} {H : Heap → Prop} (B : Begins v o H) :
    Meets (Builtin.«enumerate.__new__» ⟨[.type "enumerate", v], []⟩) (fun _ R s => H s.heap ∧
      R (.ok (.ret (.ref (s.heap.push o).objs.size))) { s with heap := (s.heap.push o).push { cls := .type "enumerate", data := .fields #[.none, .bool false, .ref s.heap.objs.size, rawInt 0, .none, .none] } }) :=
  .of_wp fun prog w A R s h => by
    obtain ⟨hp, g, d, tk, os⟩ := s; obtain ⟨h1, h⟩ := h
    have hsub := sub_enumerate
    have q1 : ∀ {A' : Around} {E : Value → Shared → Prop} {Q : Value → Shared → Prop}, Q (.ref hp.objs.size) ⟨hp.push o, g, d, tk, os⟩ → wpAny (model prog w) A' (pyIter v) Q E ⟨hp, g, d, tk, os⟩ :=
      fun q => B.iter prog w _ _ ⟨hp, g, d, tk, os⟩ _ h1 q
    wp_walk using q1
    refine wpAny_stack_any fun st => wpAny_pure ?_
    split
    · rename_i c _ _ _ _ _
      cases (c == Value.type "enumerate")
      · wp_walk using q1
        exact ⟨_, rfl, h⟩
      · wp_walk using q1
        exact ⟨_, rfl, h⟩
    · wp_walk using q1
      exact ⟨_, rfl, h⟩
theorem enum1_begins {prog : Program} {w : World} {A : Around} {E : Value → Shared → Prop} {s : Shared} {v : Value} {o : Obj} {H : Heap → Prop} {Q : Value → Shared → Prop} (B : Begins v o H) (h1 : H s.heap)
    (h : ∀ h', IsEnum h' (s.heap.objs.size + 1) s.heap.objs.size 0 .none → h'.get? s.heap.objs.size = some o → h'.objs.size = s.heap.objs.size + 2 →
      (∀ b o, s.heap.get? b = some o → h'.get? b = some o) → Q (.ref (s.heap.objs.size + 1)) { s with heap := h' }) :
    wpAny (model prog w) A (call (.type "enumerate") [v]) Q E s := by
  refine callType_new F.called_enumerate (by decide) (F.typeCall_enumerate_1 _) (F.newCall_enumerate_1 _) (fun obj => F.args_object_init_2 obj _) F.entry_enumerate_new
    (meets_enum1 B) ⟨h1, ?_⟩
  have hz : (s.heap.push o).objs.size = s.heap.objs.size + 1 := Heap.size_push ..
  show _ ∧ _
  rw [hz]
  have he : IsEnum ((s.heap.push o).push { cls := .type "enumerate", data := .fields #[.none, .bool false, .ref s.heap.objs.size, rawInt 0, .none, .none] }) (s.heap.objs.size + 1) s.heap.objs.size 0 .none := by
    have := Heap.get?_push_size (s.heap.push o) (o := { cls := .type "enumerate", data := .fields #[.none, .bool false, .ref s.heap.objs.size, rawInt 0, .none, .none] }) rfl
    rw [hz] at this; exact this
  refine ⟨⟨_, he, rfl⟩, h _ he (Heap.get?_push_of_some _ (Heap.get?_push_size _ B.free)) (by rw [Heap.size_push, hz]) fun b o x => Heap.get?_push_of_some _ (Heap.get?_push_of_some _ x)⟩
end
open PySem PySem.Spec PyProof.Rows L2
/-- the tuple at a, each item in a new pair -/
def Itet (K : PySem.W.Frag) (a : Addr) : It :=
  ⟨fun i H => ∃ (xs : List V) (x : V), SqT K H a xs ∧ xs[i]? = some x, fun i H v H' => ∃ T x, v = .ref T ∧ H T = none ∧ H' = upd H T (.tup [.int (i : Nat), x]) ∧ ∀ xs, SqT K H a xs → xs[i]? = some x, fun i H => ∃ xs : List V, SqT K H a xs ∧ xs.length ≤ i⟩
theorem turn_enumT {P : Program} {w : World} {K : PySem.W.Frag} {elts : List Expr} {kk : Nat} {tpos : Pos} (a e it : Addr) :
    Turn P w K (.Tuple elts kk tpos) (Itet K a) [e, it] e (fun i h => (∃ old, IsEnum h e it ((i : Nat) : Int) old) ∧ h.IsTupleIter it a i ∧ e ≠ it ∧ a ≠ it ∧ a ≠ e) where
  mem := by simp
  obj := fun i h st b hb => by
    obtain ⟨⟨old, he⟩, ⟨o, ho, hc, hd⟩, _⟩ := st
    have e' : b = e ∨ b = it := by simpa using hb
    rcases e' with z | z
    · rw [z]; exact ⟨_, he, fun v q => nomatch q⟩
    · rw [z]; exact ⟨o, ho, fun v q => by rw [hd] at q; cases q⟩
  keep := fun i h h' st k => let ⟨⟨old, he⟩, hi, hne⟩ := st; ⟨⟨old, k e (by simp) _ he⟩, hi.at fun o q => k it (by simp) o q, hne⟩
  item := by
    intro X hP hw hK hc i pins s σ H E I hf st hg
    subst hP hw hK
    obtain ⟨⟨old, he⟩, hit, hne, hai, hae⟩ := st
    obtain ⟨xs, x, hq, hx⟩ := hg
    obtain ⟨its, rv, p, hz⟩ := I.tuple hq
    obtain ⟨u, hu, ru⟩ := rv.get hx
    have hel : e < s.heap.objs.size := Heap.lt_size he
    have hil : it < s.heap.objs.size := by obtain ⟨_, q, _⟩ := hit; exact Heap.lt_size q
    have hil2 : i < its.toArray.size := by
      have := (List.getElem?_eq_some_iff.mp hu).1
      simpa using this
    refine wpAny_pyNext_enum_itemD (Draws.tuple (A := X.A.in1) (I.ok.hd hc) it a hai its.toArray) he ⟨hit, p⟩ hil2 hne (by simp only [List.mem_cons, List.not_mem_nil, or_false, not_or]; exact ⟨hne, fun z => hae z.symm⟩) fun x0 h' tk hP ho hit' hT hsz hk => ?_
    have ex : x0 = u := by
      have h1 : its.toArray[i]? = some u := by simpa using hu
      rw [h1] at hP
      exact (Option.some.inj hP).symm
    subst ex
    refine ⟨_, rfl, wpAny_letOwnedTupleGo_enum (s := { s with heap := h', toks := tk + 1 }) ho fun h'' he' sb => ?_⟩
    have hT2 : h''.get? s.heap.objs.size = some { cls := .type "tuple", data := .seq #[.int i tk, x0] } := (sb.2 _ (Nat.ne_of_gt hel)).trans hT
    have new : ObjOk X.prog X.w (upd H s.heap.objs.size (.tup [.int (i : Nat), x])) h'' s.heap.objs.size (.tup [.int (i : Nat), x]) :=
      ⟨by show 2 ≤ sizeLine; decide, [.int i tk, x0], .cons ⟨_, rfl⟩ (.cons ru .nil), ⟨_, hT2, rfl, _, rfl⟩⟩
    have I1 : Inv X pins σ (upd H s.heap.objs.size (.tup [.int (i : Nat), x])) { s with heap := h'', toks := tk + 1 } :=
      I.turnedNew (ch := [e, it]) (fun b ob hb q => (sb.2 b (fun z => hb (by simp [z]))).trans (hk b ob (fun z => hb (by simp [z])) (fun z => hb (by simp [z])) q)) hf (Nat.le_refl _) new
    refine ⟨.ref s.heap.objs.size, _, I1, rfl, ⟨_, x, rfl, I.hok.fresh (Nat.le_refl _), rfl, fun ys hy => by rw [I.tuple_inj hy hq]; exact hx⟩, ⟨⟨x0, ?_⟩, hit'.1.at fun o q => (sb.2 it (Ne.symm hne)).trans q, hne, hai, hae⟩, fun b hb => ?_⟩
    · have e1 : ((i + 1 : Nat) : Int) = (i : Int) + 1 := by omega
      rw [e1]; exact he'
    · have hb' : b < s.heap.objs.size := by
        have e' : b = e ∨ b = it := by simpa using hb
        rcases e' with z | z
        · rw [z]; exact hel
        · rw [z]; exact hil
      rw [upd_ne (Nat.ne_of_lt hb')]
      exact (hf b hb).1
  done := by
    intro X hP hw hK hc i pins s σ H E I hf st hg
    subst hP hw hK
    obtain ⟨⟨old, he⟩, hit, hne, hai, hae⟩ := st
    obtain ⟨xs, hq, hx⟩ := hg
    obtain ⟨its, rv, p, hz⟩ := I.tuple hq
    obtain ⟨f0, f1, f2, f3, f4, f5⟩ := hf it (by simp)
    have hl := rv.length
    have hT : s.TypeIs (.ref e) "enumerate" := ⟨_, he, rfl⟩
    unfold pyNext
    refine wpAny_bind (wpAny_attempt (wpAny_callSpecial?_slot (name := Str.ofString "__next__") hT F.slot_enumerate_next
      (wpAny_call_entry F.slot_enumerate_next hT F.entry_enumerate_next ?_ (F.args_enumerate_next_1 _))))
    show wpAny _ _ (field (.ref e) 2 >>= _) _ _ _
    refine wpAny_bind (wpAny_field he rfl (x := .ref it) rfl ?_)
    refine wpAny_bind (wpAny_nextOf_tuple_end (A := X.A.in1) (I.ok.hd hc) hit p (by simp; omega) fun h' x eb hx' => ?_)
    obtain ⟨o, ho, hcl⟩ := hx'
    refine wpAny_bind (wpAny_isInstance (T := "StopIteration") (b := true) ⟨o, ho, hcl⟩ isSubtype_stop ?_)
    exact wpAny_pure ⟨rfl, I.turned (t' := s.toks) (fun b o hb q => eb b o hb q) f0 f1 f3 f4 f5⟩
  self := fun A i s Q E st h => let ⟨⟨_, he⟩, _⟩ := st; wpAny_pyIter_enum he h
def iEnumT (K : PySem.W.Frag) (ta : TA) : TI := fun σ H R => ta σ H fun vs H1 => ∃ a xs, vs = [.ref a] ∧ SqT K H1 a xs ∧ R (Itet K a) H1
theorem pi_enumT {X : Cx} {e : Expr} {ta : TA} {p pos tpos : Pos} {elts : List Expr} {kk : Nat} (hg : Gl X "enumerate") (hm : X.mg "enumerate" = none) (ha : PA X [e] ta) (hs : starEach [e] X.env = [(false, eval e X.env)] := by rfl) :
    PI X (.Tuple elts kk tpos) (.Call (.Name "enumerate" p) [e] [] pos) (iEnumT X.K ta) := by
  refine ⟨fun pins s σ H R I h => ?_⟩
  refine Call_ (ld_blt I hg hm boot_enumerate (PyProof.Rows.callWith_type1 (thn (ha.run pos pins s σ H _ I h) fun us s1 ⟨vs, H1, I1, r1, q1⟩ => ?_) hs rfl))
  obtain ⟨a, xs, ex, hq, q⟩ := q1
  subst ex
  cases r1 with
  | cons r rr =>
    cases rr
    cases r
    obtain ⟨its, rv, p', hz⟩ := I1.tuple hq
    have hal : a < s1.heap.objs.size := by obtain ⟨_, q, _⟩ := p'; exact Heap.lt_size q
    refine enum1_begins (begins_tuple a its.toArray) p' fun h' he hit hsz hk => wpAny_pyIter_enum he ?_
    have I2 : Inv X pins σ H1 { s1 with heap := h' } := I1.kept (t' := s1.toks) hk
    refine ⟨s1.heap.objs.size + 1, [s1.heap.objs.size + 1, s1.heap.objs.size], _, _, H1, rfl, I2, turn_enumT a (s1.heap.objs.size + 1) s1.heap.objs.size, ⟨⟨.none, he⟩, ⟨_, hit, rfl, rfl⟩, Nat.succ_ne_self _, Nat.ne_of_lt hal, Nat.ne_of_lt (Nat.lt_succ_of_lt hal)⟩, fun b hb => ?_, q⟩
    have e' : b = s1.heap.objs.size + 1 ∨ b = s1.heap.objs.size := by simpa using hb
    have hle : s1.heap.objs.size ≤ b := by
      rcases e' with z | z
      · rw [z]; exact Nat.le_add_right _ _
      · rw [z]; exact Nat.le_refl _
    exact I1.fpOk hle (I1.hok.fresh hle)
theorem walk_enumT {K : PySem.W.Frag} {a : Addr} {xs : List V} : Walk (Itet K a) xs.length (fun H => SqT K H a xs) (YPair (fun i => some (.int (i : Nat))) (fun i => xs[i]?)) := by
  refine ⟨fun i _ hi q => ⟨xs, xs[i], q, by simp [hi]⟩, fun _ q => ⟨xs, q, Nat.le_refl _⟩, fun i H v H' _ q y => ?_⟩
  obtain ⟨T, x, h1, h2, h3, h4⟩ := y
  exact ⟨T, .int (i : Nat), x, h1, h2, h3, rfl, h4 xs q⟩
end Bx
-- needs deepI lists tables
-- imports KE.KDictKeyed KE.KeyNested
/-! dicts whose keys are nested tuples -/
namespace Bx
open PySem PySem.Spec PyProof.Rows L2
mutual
def keyN : PyData → NestedKey
  | .none => .none
  | .bool b => .num (if b = true then 1 else 0)
  | .int i => .num i
  | .str z => .text z
  | .list _ => .none
  | .dict _ => .none
  | .tuple ds => .tup (keyNs ds)
def keyNs : List PyData → List NestedKey
  | [] => []
  | d :: ds => keyN d :: keyNs ds
end
section
variable {X : Cx} {pins : List (Addr × Obj)} {σ : L2.St} {H : Hp} {s : Shared}
mutual
theorem keyN_is (I : Inv X pins σ H s) : ∀ (d : PyData) (v : V) (u : Value), noL d = true → Dp X.K H v d → RelV v u → NestedIs s.heap (keyN d) u
  | .none, _, u, _, h, r => by cases h; obtain rfl : u = Value.none := r; exact .none
  | .bool b, _, u, _, h, r => by cases h; obtain rfl : u = Value.bool b := r; exact .bool rfl
  | .int i, _, u, _, h, r => by cases h; obtain ⟨t, rfl⟩ := (show ∃ t, u = Value.int i t from r); exact .int i t
  | .str z, _, u, _, h, r => by cases h; obtain ⟨t, rfl⟩ := (show ∃ t, u = Value.str z t from r); exact .text z t
  | .list _, _, _, n, _, _ => by cases n
  | .dict _, _, _, n, _, _ => by cases n
  | .tuple ds, _, u, n, h, r => by
    obtain ⟨a, xs, rfl, hS, hA⟩ := Dp.tup' h
    obtain rfl : u = Value.ref a := r
    obtain ⟨its, rv, ⟨o, h1, h2, m, h3⟩, _⟩ := I.tuple hS
    rw [keyN]
    exact .tup h1 h2 h3 (by rw [noL] at n; exact keyNs_is I ds xs its n hA rv)
theorem keyNs_is (I : Inv X pins σ H s) : ∀ (ds : List PyData) (vs : List V) (us : List Value), noLs ds = true → DpAll X.K H vs ds → Vals vs us → NestedAll s.heap (keyNs ds) us
  | [], _, _, _, h, r => by cases h; cases r; exact .nil
  | d :: ds, _, _, n, h, r => by
    rw [noLs, Bool.and_eq_true] at n
    cases h with
    | cons h1 h2 =>
      cases r with
      | cons r1 r2 =>
        rw [keyNs]
        exact .cons (keyN_is I d _ _ n.1 h1 r1) (keyNs_is I ds _ _ n.2 h2 r2)
end
end
/-- at b stands a tuple that is the key k -/
structure KeyA (K : PySem.W.Frag) (H : Hp) (k : NestedKey) (b : Addr) : Prop where
  ex : ∃ d, Dp K H (.ref b) d ∧ noL d = true ∧ keyN d = k ∧ k.depth ≤ 8
theorem KeyA.sameT {K : PySem.W.Frag} {H H' : Hp} {k : NestedKey} {b : Addr} (e : SameT H H') (h : KeyA K H k b) : KeyA K H' k b := by
  obtain ⟨d, h1, h2, h3⟩ := h.ex
  exact ⟨d, Dp.sameT e h2 h1, h2, h3⟩
abbrev EnN := NestedKey × Addr × V
def RelN (p : EnN) (q : NestedKey × Addr × Value) : Prop := p.1 = q.1 ∧ p.2.1 = q.2.1 ∧ RelV p.2.2 q.2.2
def dN (P : Program) (w : World) (a : Addr) (kvs : List EnN) : HO := .ext fun h => kvs.length ≤ sizeLine ∧ (a == sysModules) = false ∧ ∃ xs, Paired RelN kvs xs ∧ ∃ o es ep, h.get? a = some o ∧ o.ExactDict ∧ o.data = .dict es ep ∧ es.toList = xs.map (entryOfKey (nestedKind P w)) ∧ (xs.map (·.1)).Nodup
def hasN (kvs : List EnN) (k : NestedKey) : Bool := kvs.any fun p => decide (p.1 = k)
def getN (kvs : List EnN) (k : NestedKey) : Option V := (kvs.find? fun p => decide (p.1 = k)).map (·.2.2)
def putN (kvs : List EnN) (k : NestedKey) (b : Addr) (v : V) : List EnN := if hasN kvs k = true then kvs.map (fun p => if p.1 = k then (p.1, p.2.1, v) else p) else kvs ++ [(k, b, v)]
theorem relN_find {kvs : List EnN} {xs : List (NestedKey × Addr × Value)} (k : NestedKey) (r : Paired RelN kvs xs) : RelO (getN kvs k) ((atKey xs k).map (·.2)) ∧ (atKey xs k).isSome = hasN kvs k := by
  induction r with
  | nil => exact ⟨True.intro, rfl⟩
  | @cons p q ps qs h t ih =>
    unfold getN hasN atKey at ih ⊢
    rw [List.find?_cons, List.find?_cons, List.any_cons, ← h.1]
    by_cases c : p.1 = k
    · rw [decide_eq_true c]
      exact ⟨h.2.2, rfl⟩
    · rw [decide_eq_false c, Bool.false_or]
      exact ih
theorem relN_len {kvs : List EnN} {xs : List (NestedKey × Addr × Value)} (r : Paired RelN kvs xs) : kvs.length = xs.length := by
  induction r with
  | nil => rfl
  | cons _ _ ih => rw [List.length_cons, List.length_cons, ih]
theorem relN_app {kvs kvs' : List EnN} {xs xs' : List (NestedKey × Addr × Value)} (r : Paired RelN kvs xs) (r' : Paired RelN kvs' xs') : Paired RelN (kvs ++ kvs') (xs ++ xs') := by
  induction r with
  | nil => exact r'
  | cons h _ ih => exact .cons h ih
theorem relN_map {kvs : List EnN} {xs : List (NestedKey × Addr × Value)} (k : NestedKey) {v : V} {u : Value} (rv : RelV v u) (r : Paired RelN kvs xs) : Paired RelN (kvs.map (fun p => if p.1 = k then (p.1, p.2.1, v) else p)) (xs.map (putAt k u)) := by
  induction r with
  | nil => exact .nil
  | @cons p q ps qs h t ih =>
    rw [List.map_cons, List.map_cons]
    refine .cons ?_ ih
    unfold putAt
    rw [← h.1]
    by_cases c : p.1 = k
    · rw [if_pos c, if_pos c]
      exact ⟨rfl, h.2.1, rv⟩
    · rw [if_neg c, if_neg c]
      exact h
theorem relN_all {F : NestedKey → Addr → Prop} {kvs : List EnN} {xs : List (NestedKey × Addr × Value)} (r : Paired RelN kvs xs) : (∀ p ∈ kvs, F p.1 p.2.1) → ∀ x ∈ xs, F x.1 x.2.1 := by
  induction r with
  | nil => intro _ x hx; cases hx
  | @cons p q ps qs h t ih =>
    intro hk x hx
    rcases List.mem_cons.mp hx with rfl | hx
    · have := hk p List.mem_cons_self
      rw [h.1, h.2.1] at this
      exact this
    · exact ih (fun p hp => hk p (List.mem_cons_of_mem _ hp)) x hx
theorem relN_put {kvs : List EnN} {xs : List (NestedKey × Addr × Value)} (k : NestedKey) (b : Addr) {v : V} {u : Value} (rv : RelV v u) (r : Paired RelN kvs xs) : Paired RelN (putN kvs k b v) (storedH xs k b u) := by
  unfold putN storedH
  rw [(relN_find k r).2]
  split
  · exact relN_map k rv r
  · exact relN_app r (.cons ⟨rfl, rfl, rv⟩ .nil)
theorem putN_len (kvs : List EnN) (k : NestedKey) (b : Addr) (v : V) : (putN kvs k b v).length ≤ kvs.length + 1 := by
  unfold putN
  split
  · rw [List.length_map]; omega
  · rw [List.length_append]; exact Nat.le_refl _
section
variable {P : Program} {w : World}
theorem dN_ok {H : Hp} {h : Heap} {a : Addr} {kvs : List EnN} {xs : List (NestedKey × Addr × Value)} (z : kvs.length ≤ sizeLine) (hd : (a == sysModules) = false) (rel : Paired RelN kvs xs) (dd : h.DictOfH (nestedKind P w) a xs) : ObjOk P w H h a (dN P w a kvs) := by
  obtain ⟨o, es, ep, ho, h1, h2, h3, _, h5⟩ := dd
  exact ⟨⟨z, hd, xs, rel, o, es, ep, ho, h1, h2, h3, h5⟩, ⟨o, ho⟩, fun g1 g2 q k => by
    obtain ⟨z, hd, xs, rel, o, es, ep, ho, r⟩ := q
    exact ⟨z, hd, xs, rel, o, es, ep, k _ ho, r⟩⟩
theorem dN_tup {a : Addr} {kvs : List EnN} {xs : List V} : dN P w a kvs ≠ .tup xs := fun z => by
  have z' : HO.ext _ = HO.tup xs := z
  cases z'
theorem dN_lst {a : Addr} {kvs : List EnN} {xs : List V} : dN P w a kvs ≠ .lst xs := fun z => by
  have z' : HO.ext _ = HO.lst xs := z
  cases z'
end
section
variable {X : Cx} {pins : List (Addr × Obj)} {σ : L2.St} {H : Hp} {s : Shared}
theorem KeyA.is (I : Inv X pins σ H s) {k : NestedKey} {b : Addr} (h : KeyA X.K H k b) : (nestedKind X.prog X.w).is s.heap k b := by
  obtain ⟨d, h1, h2, rfl, h4⟩ := h.ex
  exact ⟨keyN_is I d _ _ h2 h1 rfl, h4⟩
theorem dN_at (I : Inv X pins σ H s) {a : Addr} {kvs : List EnN} (e : H a = some (dN X.prog X.w a kvs)) (hk : ∀ p ∈ kvs, KeyA X.K H p.1 p.2.1) : kvs.length ≤ sizeLine ∧ (a == sysModules) = false ∧ ∃ xs, Paired RelN kvs xs ∧ s.heap.DictOfH (nestedKind X.prog X.w) a xs := by
  have x : ObjOk X.prog X.w H s.heap a (.ext fun h => kvs.length ≤ sizeLine ∧ (a == sysModules) = false ∧ ∃ xs, Paired RelN kvs xs ∧ ∃ o es ep, h.get? a = some o ∧ o.ExactDict ∧ o.data = .dict es ep ∧ es.toList = xs.map (entryOfKey (nestedKind X.prog X.w)) ∧ (xs.map (·.1)).Nodup) := I.hok a _ e
  obtain ⟨⟨z, hd, xs, rel, o, es, ep, ho, h1, h2, h3, h5⟩, _⟩ := x
  exact ⟨z, hd, xs, rel, o, es, ep, ho, h1, h2, h3, relN_all (F := fun k b => (nestedKind X.prog X.w).is s.heap k b) rel fun p hp => (hk p hp).is I, h5⟩
end
section
variable {X : Cx} {o i e : Expr} {td ty tv : TE} {pos pos' : Pos}
theorem roomN {A : Around} (h : A.units + 64 < cLine) : (nestedKind X.prog X.w).room A.in1.in1 := by
  show A.in1.in1.units + 8 < cLine
  have : A.in1.in1.units = A.units + 2 := rfl
  omega
theorem roomN1 {A : Around} (h : A.units + 64 < cLine) : (nestedKind X.prog X.w).room A.in1 := by
  show A.in1.units + 8 < cLine
  have : A.in1.units = A.units + 1 := rfl
  omega
/-- t not in d; t in d -/
def tDInN (P : Program) (w : World) (K : PySem.W.Frag) (neg : Bool) (ty td : TE) : TE := fun σ H Q => ty σ H fun y H1 => td σ H1 fun x H2 => ∃ (a b : Addr) (kvs : List EnN) (k : NestedKey), x = .ref a ∧ y = .ref b ∧ H2 a = some (dN P w a kvs) ∧ (∀ p ∈ kvs, KeyA K H2 p.1 p.2.1) ∧ KeyA K H2 k b ∧ Q (.bl (if neg = true then !(hasN kvs k) else hasN kvs k)) H2
theorem pc_dnotinN (hu : X.A.units + 64 < cLine) (hi : PE X i ty) (ho : PE X o td) : PC X .NotIn i o (tDInN X.prog X.w X.K true ty td) := by
  refine ⟨fun pins s σ H Q I h => ?_⟩
  refine thn (hi.run pins s σ H _ I h) fun iv s1 ⟨y, H1, I1, ry, q1⟩ => thn (ho.run pins s1 σ H1 _ I1 q1) fun u s2 ⟨x, H2, I2, rx, a, b, kvs, k, ex, ey, g, hk, kb, q2⟩ => ?_
  subst ex ey
  obtain rfl : u = Value.ref a := rx
  obtain rfl : iv = Value.ref b := ry
  obtain ⟨z, hd, xs, rel, dd⟩ := dN_at I2 g hk
  refine wpAny_notIn_heap (roomN1 hu) (kb.is I2) hd dd ?_
  rw [(relN_find k rel).2]
  exact ⟨.bl _, H2, I2.tok _, rfl, q2⟩
theorem pc_dinN (hu : X.A.units + 64 < cLine) (hi : PE X i ty) (ho : PE X o td) : PC X .In i o (tDInN X.prog X.w X.K false ty td) := by
  refine ⟨fun pins s σ H Q I h => ?_⟩
  refine thn (hi.run pins s σ H _ I h) fun iv s1 ⟨y, H1, I1, ry, q1⟩ => thn (ho.run pins s1 σ H1 _ I1 q1) fun u s2 ⟨x, H2, I2, rx, a, b, kvs, k, ex, ey, g, hk, kb, q2⟩ => ?_
  subst ex ey
  obtain rfl : u = Value.ref a := rx
  obtain rfl : iv = Value.ref b := ry
  obtain ⟨z, hd, xs, rel, dd⟩ := dN_at I2 g hk
  refine wpAny_in_heap (roomN1 hu) (kb.is I2) hd dd ?_
  rw [(relN_find k rel).2]
  exact ⟨.bl _, H2, I2.tok _, rfl, q2⟩
/-- d[t] = v -/
def sDPutN (P : Program) (w : World) (K : PySem.W.Frag) (td ty tv : TE) : TS := fun D σ H => tv σ H fun v H1 => td σ H1 fun x H2 => ty σ H2 fun y H3 => ∃ (a b : Addr) (kvs : List EnN) (k : NestedKey), x = .ref a ∧ y = .ref b ∧ H3 a = some (dN P w a kvs) ∧ (∀ p ∈ kvs, KeyA K H3 p.1 p.2.1) ∧ KeyA K H3 k b ∧ kvs.length < sizeLine ∧ D.nx σ (upd H3 a (dN P w a (putN kvs k b v)))
theorem ps_dputN {value : Expr} (hu : X.A.units + 64 < cLine) (ho : PE X o td) (hi : PE X i ty) (hv : PE X value tv) (hs : swapsWith value (some (.Subscript o i pos')) pos.line X.env = pure false) :
    PS X (.Assign [.Subscript o i pos'] value pos) (sDPutN X.prog X.w X.K td ty tv) := by
  refine ⟨fun pins s σ H D I h => ?_⟩
  refine wpAny_Assign_Subscript (thn (hv.run pins s σ H _ I h) fun r s1 ⟨v, H1, I1, rv, q1⟩ => thn (ho.run pins s1 σ H1 _ I1 q1) fun u s2 ⟨x, H2, I2, rx, q2⟩ => thn (hi.run pins s2 σ H2 _ I2 q2) fun iv s3 ⟨y, H3, I3, ry, a, b, kvs, k, ex, ey, e, hk, kb, l, q3⟩ => ?_) hs
  subst ex ey
  obtain rfl : u = Value.ref a := rx
  obtain rfl : iv = Value.ref b := ry
  obtain ⟨z, hd, xs, rel, dd⟩ := dN_at I3 e hk
  have hz : xs.length ≤ sizeLine := by rw [← relN_len rel]; exact z
  have hl : (putN kvs k b v).length ≤ sizeLine := by have := putN_len kvs k b v; omega
  refine wpAny_setItem_heap (hsz := hz) (roomN1 hu) (kb.is I3) dd fun h' dd' hs' => ⟨σ, _, ?_, q3⟩
  have he : ∃ q, h'.get? a = some q := let ⟨q, _, _, hq, _⟩ := dd'; ⟨q, hq⟩
  exact d_write I3 (by rw [e]; exact True.intro) hs' he (dN_ok hl hd (relN_put k b rv rel) dd')
/-- d[t] -/
def tDGetN (P : Program) (w : World) (K : PySem.W.Frag) (td ty : TE) : TE := fun σ H Q => td σ H fun x H1 => ty σ H1 fun y H2 => ∃ (a b : Addr) (kvs : List EnN) (k : NestedKey) (v : V), x = .ref a ∧ y = .ref b ∧ H2 a = some (dN P w a kvs) ∧ (∀ p ∈ kvs, KeyA K H2 p.1 p.2.1) ∧ KeyA K H2 k b ∧ getN kvs k = some v ∧ Q v H2
theorem pe_dgetN (hu : X.A.units + 64 < cLine) (ho : PE X o td) (hi : PE X i ty) (hs : NoSl i) : PE X (.Subscript o i pos) (tDGetN X.prog X.w X.K td ty) := by
  refine ⟨fun pins s σ H Q I h => ?_⟩
  refine subD_of PySem.F.slot_dict_getitem.lookup hs (thn (ho.run pins s σ H _ I h) fun u s1 ⟨x, H1, I1, rx, q1⟩ => thn (hi.run pins s1 σ H1 _ I1 q1) fun iv s2 ⟨y, H2, I2, ry, a, b, kvs, k, v, ex, ey, g, hk, kb, hv, q2⟩ => ?_)
  subst ex ey
  obtain rfl : u = Value.ref a := rx
  obtain rfl : iv = Value.ref b := ry
  obtain ⟨z, hd, xs, rel, dd⟩ := dN_at I2 g hk
  obtain ⟨w', hw, rw'⟩ := RelO.some_of (v := v) (o := (atKey xs k).map (·.2)) (by rw [← hv]; exact (relN_find k rel).1)
  obtain ⟨p, hp, hp2⟩ := Option.map_eq_some_iff.mp hw
  refine ⟨dd.typeIs, wpAny_getItem_heap (roomN1 hu) (kb.is I2) dd hp ?_⟩
  rw [hp2]
  exact ⟨v, H2, I2.tok _, rw', q2⟩
/-- {} -/
def tDNewN (P : Program) (w : World) : TE := fun _ H Q => ∀ p, H p = none → Q (.ref p) (upd H p (dN P w p []))
theorem pe_dnewN : PE X (.Dict [] [] pos) (tDNewN X.prog X.w) := ⟨fun pins s σ H Q I h =>
  wpAny_Dict_empty ⟨.ref s.heap.objs.size, _, I.laid (a := s.heap.objs.size) (o := dN X.prog X.w s.heap.objs.size []) (t' := s.toks) (fun _ _ q => Heap.get?_push_of_some _ q) (Nat.le_refl _)
    (dN_ok (Nat.zero_le _) (beq_eq_false_iff_ne.mpr (Ne.symm (Nat.ne_of_lt I.big))) .nil (Heap.DictOfH.new s.heap)), rfl, h _ (I.hok.fresh (Nat.le_refl _))⟩⟩
/-- dict(ps), ps a list of pairs (t, v) -/
def mergeN (kvs ps : List EnN) : List EnN := ps.foldl (fun acc p => putN acc p.1 p.2.1 p.2.2) kvs
theorem mergeN_len (ps : List EnN) : ∀ kvs, (mergeN kvs ps).length ≤ kvs.length + ps.length := by
  induction ps with
  | nil => exact fun kvs => Nat.le_refl _
  | cons p ps ih =>
    intro kvs
    have h1 := ih (putN kvs p.1 p.2.1 p.2.2)
    have h2 := putN_len kvs p.1 p.2.1 p.2.2
    show (mergeN (putN kvs p.1 p.2.1 p.2.2) ps).length ≤ _
    rw [List.length_cons]
    omega
theorem relN_merge {ps : List EnN} {qs : List (NestedKey × Addr × Value)} (r : Paired RelN ps qs) : ∀ {kvs : List EnN} {xs : List (NestedKey × Addr × Value)}, Paired RelN kvs xs → Paired RelN (mergeN kvs ps) (storedAllH xs qs) := by
  induction r with
  | nil => exact fun h => h
  | @cons p q ps qs h t ih =>
    intro kvs xs rel
    show Paired RelN (mergeN (putN kvs p.1 p.2.1 p.2.2) ps) (storedAllH (storedH xs q.1 q.2.1 q.2.2) qs)
    rw [h.1, h.2.1]
    exact ih (relN_put q.1 q.2.1 h.2.2 rel)
def rDictN (P : Program) (w : World) (K : PySem.W.Frag) : List V → Hp → VK → Prop := fun xs H Q => ∃ (a : Addr) (ts : List Addr) (ps : List EnN), xs = [.ref a] ∧ SqL K H a (ts.map V.ref) ∧ Paired (fun t p => SqT K H t [.ref p.2.1, p.2.2]) ts ps ∧ (∀ p ∈ ps, KeyA K H p.1 p.2.1) ∧
  ∀ p, H p = none → Q (.ref p) (upd H p (dN P w p (mergeN [] ps)))
theorem pairsN_of {pins : List (Addr × Obj)} {σ : L2.St} {H : Hp} {s : Shared} (I : Inv X pins σ H s) : ∀ {ts : List Addr} {ps : List EnN}, Paired (fun t p => SqT X.K H t [V.ref p.2.1, p.2.2]) ts ps →
    ∃ qs : List (NestedKey × Addr × Value), Paired RelN ps qs ∧ qs.length = ts.length ∧ ∀ (j : Nat) q, qs[j]? = some q → ∃ t, ts[j]? = some t ∧ s.heap.IsTuple t #[.ref q.2.1, q.2.2]
  | _, _, .nil => ⟨[], .nil, rfl, fun j q e => by simp at e⟩
  | _, _, .cons (a := t) (b := p) h r => by
    obtain ⟨qs, r1, hl, hp⟩ := pairsN_of I r
    obtain ⟨its, rv, ht, _⟩ := I.tuple h
    obtain ⟨u, y, ei, ru, ry⟩ := vals2 rv
    subst ei
    obtain rfl : u = Value.ref p.2.1 := ru
    refine ⟨(p.1, p.2.1, y) :: qs, .cons ⟨rfl, rfl, ry⟩ r1, by rw [List.length_cons, List.length_cons, hl], fun j q e => ?_⟩
    cases j with
    | zero =>
      have e' : (p.1, p.2.1, y) = q := Option.some.inj e
      subst e'
      exact ⟨t, rfl, ht⟩
    | succ j =>
      obtain ⟨b, e1, e2⟩ := hp j q (by simpa using e)
      exact ⟨b, by simpa using e1, e2⟩
theorem call_dictN (hcalm : X.calm = true) (hu : X.A.units + 64 < cLine) : CallR X (.type "dict") (rDictN X.prog X.w X.K) := by
  intro pins s σ H xs us Q I r q
  obtain ⟨a, ts, ps, ex, hq, hp, hk, q⟩ := q
  subst ex
  obtain ⟨u, eu, rx⟩ := vals1 r
  subst eu
  cases rx
  obtain ⟨its, rv, pl, hz⟩ := I.list hq
  have ei := refs_at rv
  subst ei
  rw [List.length_map] at hz
  obtain ⟨qs, rel, hl, hpr⟩ := pairsN_of I hp
  obtain ⟨o, n, ho, hc, hd, hdat⟩ := pl
  have his : ∀ x ∈ qs, (nestedKind X.prog X.w).is s.heap x.1 x.2.1 := relN_all (F := fun k b => (nestedKind X.prog X.w).is s.heap k b) rel fun p hp => (hk p hp).is I
  have PA := PairArg.list (prog := X.prog) (w := X.w) a ((ts.map Value.ref).toArray) (fun j => (ts[j]?).getD 0) (qs.map fun q => (Value.ref q.2.1, q.2.2))
  refine call_dict_pairsH (knd := nestedKind X.prog X.w) (ps := qs) PA (I.ok.hd hcalm) (roomN hu) ⟨⟨o, n, ho, hc, hd, hdat⟩, ?_, fun j k v e => ?_⟩ ⟨(List.length_map _).symm, fun i key v e => ?_⟩ (fun h' hk' x hx => ?_) (by rw [List.length_map, hl]; exact hz) fun h' tk hd' k => ?_
  · simp [hl]
  · rw [List.getElem?_map] at e
    obtain ⟨q, hq, e⟩ := Option.map_eq_some_iff.mp e
    cases e
    obtain ⟨t, ht, htup⟩ := hpr j q hq
    refine ⟨by simp [ht], .inl ?_⟩
    show s.heap.IsTuple ((ts[j]?).getD 0) _
    rw [ht]
    exact htup
  · have e : (qs.map fun q => (Value.ref q.2.1, q.2.2))[i]? = some (key, v) := e
    rw [List.getElem?_map] at e
    obtain ⟨q, hq, e⟩ := Option.map_eq_some_iff.mp e
    cases e
    exact ⟨q.1, q.2.1, hq, rfl⟩
  · exact nestedKind_stays.stays (fun b ob vs n e _ => hk' b ob (Nat.ne_of_lt (Heap.lt_size e)) List.not_mem_nil e) (his x hx)
  · have hm : (s.heap.objs.size == sysModules) = false := beq_eq_false_iff_ne.mpr (Nat.ne_of_gt I.big)
    have hlen : (mergeN [] ps).length ≤ sizeLine := by
      refine Nat.le_trans (mergeN_len ps []) ?_
      rw [List.length_nil, Nat.zero_add, relN_len rel, hl]
      exact hz
    exact ⟨.ref s.heap.objs.size, upd H s.heap.objs.size (dN X.prog X.w s.heap.objs.size (mergeN [] ps)), I.laid (t' := tk) (fun b o e => k b o List.not_mem_nil e) (Nat.le_refl _) (dN_ok hlen hm (relN_merge rel .nil) hd'), rfl, q _ (I.hok.fresh (Nat.le_refl _))⟩
end
end Bx
-- needs least dcit
/-! two tables put together -/
namespace Bx
open PySem PySem.Spec PyProof.Rows L2
def goP (t1 t2 : Tb) (c : Nat × Nat) (b : Bool) : Nat × Nat := (goT t1 c.1 b, goT t2 c.2 b)
def prS (t1 t2 : Tb) (o : List (Nat × Nat)) (k : Nat) : List (Nat × Nat) := match o[k]? with
  | some c => fstep (fstep o (goP t1 t2 c true)) (goP t1 t2 c false)
  | none => o
def prK (t1 t2 : Tb) (o : List (Nat × Nat)) : Nat → List (Nat × Nat)
  | 0 => o
  | k + 1 => prS t1 t2 (prK t1 t2 o k) k
def lcmN (a b : Nat) : Nat := a / Nat.gcd a b * b
def begP (t1 t2 : Tb) : List (Nat × Nat) := (List.range (lcmN t1.m t2.m)).map fun g => (begT t1 g, begT t2 g)
def ordP (t1 t2 : Tb) : List (Nat × Nat) := prK t1 t2 (firsts (begP t1 t2)) (t1.rows.length * t2.rows.length)
def rowP (op : Bool → Bool → Bool) (t1 t2 : Tb) (o : List (Nat × Nat)) (c : Nat × Nat) : Nat × Nat × Bool := (idxK o (goP t1 t2 c true), idxK o (goP t1 t2 c false), op (goodT t1 c.1) (goodT t2 c.2))
def flatT (t : Tb) (g : Nat) : Bool := (t.flats[g % t.m]?).getD false
def steepT (t : Tb) (g : Nat) : Bool := (t.steeps[g % t.m]?).getD false
def prodF (op : Bool → Bool → Bool) (t1 t2 : Tb) : Tb :=
  ⟨lcmN t1.m t2.m, (List.range (lcmN t1.m t2.m)).map fun g => op (flatT t1 g) (flatT t2 g), (List.range (lcmN t1.m t2.m)).map fun g => op (steepT t1 g) (steepT t2 g), (begP t1 t2).map (idxK (ordP t1 t2)), (ordP t1 t2).map (rowP op t1 t2 (ordP t1 t2))⟩
structure OrdP (t1 t2 : Tb) (o : List (Nat × Nat)) : Prop where
  nd : o.Nodup
  lt : ∀ c ∈ o, c.1 < t1.rows.length ∧ c.2 < t2.rows.length
theorem OrdP.step {t1 t2 : Tb} {o : List (Nat × Nat)} (h : OrdP t1 t2 o) {c : Nat × Nat} (hc : c.1 < t1.rows.length ∧ c.2 < t2.rows.length) : OrdP t1 t2 (fstep o c) :=
  ⟨fstep_nodup h.nd, fun d hd => (fstep_mem.mp hd).elim (h.lt d) fun e => e ▸ hc⟩
theorem goP_lt {t1 t2 : Tb} (ok1 : Tok t1) (ok2 : Tok t2) {c : Nat × Nat} (h : c.1 < t1.rows.length ∧ c.2 < t2.rows.length) (b : Bool) : (goP t1 t2 c b).1 < t1.rows.length ∧ (goP t1 t2 c b).2 < t2.rows.length :=
  ⟨goT_lt ok1 h.1 b, goT_lt ok2 h.2 b⟩
theorem OrdP.len {t1 t2 : Tb} {o : List (Nat × Nat)} (h : OrdP t1 t2 o) : o.length ≤ t1.rows.length * t2.rows.length := by
  have hn : (o.map fun c => c.1 * t2.rows.length + c.2).Nodup := by
    refine List.pairwise_map.mpr (List.Pairwise.imp_of_mem ?_ h.nd)
    intro a b ha hb ne e
    have la := (h.lt a ha).2
    have lb := (h.lt b hb).2
    have h2 : a.2 = b.2 := by
      have := congrArg (fun z => z % t2.rows.length) e
      rwa [Nat.mul_comm, Nat.mul_add_mod, Nat.mul_comm, Nat.mul_add_mod, Nat.mod_eq_of_lt la, Nat.mod_eq_of_lt lb] at this
    have h1 : a.1 = b.1 := by
      rw [h2] at e
      exact Nat.eq_of_mul_eq_mul_right (by omega) (Nat.add_right_cancel e)
    exact ne (Prod.ext h1 h2)
  have := nodup_len (t1.rows.length * t2.rows.length) _ hn fun x hx => by
    obtain ⟨c, hc, rfl⟩ := List.mem_map.mp hx
    have l := h.lt c hc
    have : (c.1 + 1) * t2.rows.length ≤ t1.rows.length * t2.rows.length := Nat.mul_le_mul_right _ l.1
    rw [Nat.succ_mul] at this
    omega
  rw [List.length_map] at this
  exact this
theorem OrdP.prS {t1 t2 : Tb} {o : List (Nat × Nat)} (h : OrdP t1 t2 o) (ok1 : Tok t1) (ok2 : Tok t2) (k : Nat) : OrdP t1 t2 (prS t1 t2 o k) := by
  unfold Bx.prS
  cases e : o[k]? with
  | none => exact h
  | some c =>
    have hc := h.lt c (List.mem_of_getElem? e)
    exact (h.step (goP_lt ok1 ok2 hc true)).step (goP_lt ok1 ok2 hc false)
theorem OrdP.prK {t1 t2 : Tb} {o : List (Nat × Nat)} (h : OrdP t1 t2 o) (ok1 : Tok t1) (ok2 : Tok t2) : ∀ k, OrdP t1 t2 (prK t1 t2 o k)
  | 0 => h
  | k + 1 => (h.prK ok1 ok2 k).prS ok1 ok2 k
theorem prS_pre (t1 t2 : Tb) (o : List (Nat × Nat)) (k : Nat) : o <+: prS t1 t2 o k := by
  unfold prS
  split
  · exact (fstep_pre _ _).trans (fstep_pre _ _)
  · exact List.prefix_refl _
theorem prK_pre (t1 t2 : Tb) (o : List (Nat × Nat)) (k : Nat) : ∀ j, prK t1 t2 o k <+: prK t1 t2 o (k + j)
  | 0 => List.prefix_refl _
  | j + 1 => (prK_pre t1 t2 o k j).trans (prS_pre _ _ _ _)
theorem prK_stop {t1 t2 : Tb} {o : List (Nat × Nat)} {k : Nat} (h : (prK t1 t2 o k).length ≤ k) : ∀ j, prK t1 t2 o (k + j) = prK t1 t2 o k
  | 0 => rfl
  | j + 1 => by
    have ih := prK_stop h j
    show prS t1 t2 (prK t1 t2 o (k + j)) (k + j) = _
    rw [ih]
    unfold prS
    rw [List.getElem?_eq_none (by omega)]
section
variable {t1 t2 : Tb} {op : Bool → Bool → Bool}
theorem prK_end {o : List (Nat × Nat)} (h : OrdP t1 t2 o) (ok1 : Tok t1) (ok2 : Tok t2) {k : Nat} (hk : (prK t1 t2 o k).length ≤ k) : prK t1 t2 o k = prK t1 t2 o (t1.rows.length * t2.rows.length) := by
  generalize hN : t1.rows.length * t2.rows.length = N
  by_cases hc : k ≤ N
  · obtain ⟨j, hj⟩ : ∃ j, N = k + j := ⟨N - k, by omega⟩
    rw [hj, prK_stop hk j]
  · have hl := (h.prK ok1 ok2 N).len
    rw [hN] at hl
    have e := prK_stop hl (k - N)
    rw [show N + (k - N) = k by omega] at e
    exact e
theorem prK_closed {o : List (Nat × Nat)} (h : OrdP t1 t2 o) (ok1 : Tok t1) (ok2 : Tok t2) {c : Nat × Nat} (hc : c ∈ prK t1 t2 o (t1.rows.length * t2.rows.length)) (b : Bool) : goP t1 t2 c b ∈ prK t1 t2 o (t1.rows.length * t2.rows.length) := by
  have hl := (h.prK ok1 ok2 (t1.rows.length * t2.rows.length)).len
  have en := fun k hk => prK_end h ok1 ok2 (k := k) hk
  generalize t1.rows.length * t2.rows.length = N at *
  obtain ⟨k, hk⟩ := List.getElem?_of_mem hc
  have hkl := (List.getElem?_eq_some_iff.mp hk).1
  obtain ⟨j, hj⟩ : ∃ j, N = k + 1 + j := ⟨N - (k + 1), by omega⟩
  have hlt : k < (prK t1 t2 o k).length := by
    by_cases z : k < (prK t1 t2 o k).length
    · exact z
    · exfalso
      have e := en k (by omega)
      rw [← e] at hkl
      omega
  have e1 : (prK t1 t2 o k)[k]? = some c := by
    have p := prK_pre t1 t2 o k (1 + j)
    rw [show k + (1 + j) = N by omega] at p
    obtain ⟨r, hr⟩ := p
    rw [← hr, List.getElem?_append_left hlt] at hk
    exact hk
  have e2 : goP t1 t2 c b ∈ prK t1 t2 o (k + 1) := by
    show _ ∈ prS t1 t2 (prK t1 t2 o k) k
    unfold prS
    rw [e1]
    cases b
    · exact fstep_mem.mpr (.inr rfl)
    · exact fstep_mem.mpr (.inl (fstep_mem.mpr (.inr rfl)))
  have p := prK_pre t1 t2 o (k + 1) j
  rw [← hj] at p
  exact p.subset e2
/-- the followers of a pair whose turn is over are there -/
theorem prK_at {o : List (Nat × Nat)} {n j : Nat} {c : Nat × Nat} (hj : j < n) (hc : (prK t1 t2 o n)[j]? = some c) (b : Bool) : goP t1 t2 c b ∈ prK t1 t2 o n := by
  have hkl := (List.getElem?_eq_some_iff.mp hc).1
  obtain ⟨d, hd⟩ : ∃ d, n = j + 1 + d := ⟨n - (j + 1), by omega⟩
  have hlt : j < (prK t1 t2 o j).length := by
    by_cases z : j < (prK t1 t2 o j).length
    · exact z
    · exfalso
      have e := prK_stop (t1 := t1) (t2 := t2) (o := o) (k := j) (by omega) (1 + d)
      rw [show j + (1 + d) = n by omega] at e
      rw [e] at hkl
      omega
  have e1 : (prK t1 t2 o j)[j]? = some c := by
    have p := prK_pre t1 t2 o j (1 + d)
    rw [show j + (1 + d) = n by omega] at p
    obtain ⟨r, hr⟩ := p
    rw [← hr, List.getElem?_append_left hlt] at hc
    exact hc
  have e2 : goP t1 t2 c b ∈ prK t1 t2 o (j + 1) := by
    show _ ∈ prS t1 t2 (prK t1 t2 o j) j
    unfold prS
    rw [e1]
    cases b
    · exact fstep_mem.mpr (.inr rfl)
    · exact fstep_mem.mpr (.inl (fstep_mem.mpr (.inr rfl)))
  have p := prK_pre t1 t2 o (j + 1) d
  rw [← hd] at p
  exact p.subset e2
theorem beg_lt {t : Tb} (ok : Tok t) (g : Nat) : begT t g < t.rows.length := by
  have hg : g % t.m < t.starts.length := by rw [ok.tl]; exact Nat.mod_lt _ ok.m0.1
  have e : t.starts[g % t.m]? = some (begT t g) := by
    unfold begT
    rw [List.getElem?_eq_getElem hg]
    rfl
  exact ok.st _ (List.mem_of_getElem? e)
theorem ordP_firsts (ok1 : Tok t1) (ok2 : Tok t2) : OrdP t1 t2 (firsts (begP t1 t2)) := by
  refine ⟨firsts_nodup _ _ List.nodup_nil, fun c hc => ?_⟩
  rcases firsts_sub _ _ hc with e | e
  · exact absurd e List.not_mem_nil
  · obtain ⟨g, _, rfl⟩ := List.mem_map.mp e
    exact ⟨beg_lt ok1 g, beg_lt ok2 g⟩
theorem ordP_l (ok1 : Tok t1) (ok2 : Tok t2) : OrdP t1 t2 (ordP t1 t2) := (ordP_firsts ok1 ok2).prK ok1 ok2 _
theorem ordP_beg {c : Nat × Nat} (h : c ∈ begP t1 t2) : c ∈ ordP t1 t2 := by
  have p := prK_pre t1 t2 (firsts (begP t1 t2)) 0 (t1.rows.length * t2.rows.length)
  rw [Nat.zero_add] at p
  exact p.subset (firsts_mem h)
theorem idxP_lt {κ : Type} [DecidableEq κ] {l : List κ} {c : κ} (h : c ∈ l) : idxK l c < l.length := List.idxOf_lt_length_of_mem h
theorem idxP_get {κ : Type} [DecidableEq κ] {l : List κ} {c : κ} (h : c ∈ l) : l[idxK l c]? = some c := by
  have h1 := List.idxOf_lt_length_of_mem h
  unfold idxK
  rw [List.getElem?_eq_getElem h1, List.getElem_idxOf h1]
theorem idxP_pre {κ : Type} [DecidableEq κ] {l m : List κ} {c : κ} (p : l <+: m) (h : c ∈ l) : idxK m c = idxK l c := by
  obtain ⟨r, rfl⟩ := p
  unfold idxK
  rw [List.idxOf_append, if_pos h]
theorem prodF_go (ok1 : Tok t1) (ok2 : Tok t2) {c : Nat × Nat} (hm : c ∈ ordP t1 t2) (b : Bool) : goT (prodF op t1 t2) (idxK (ordP t1 t2) c) b = idxK (ordP t1 t2) (goP t1 t2 c b) ∧ goP t1 t2 c b ∈ ordP t1 t2 := by
  refine ⟨?_, prK_closed (ordP_firsts ok1 ok2) ok1 ok2 hm b⟩
  unfold goT prodF
  dsimp only
  rw [List.getElem?_map, idxP_get hm]
  cases b <;> rfl
theorem prodF_good {c : Nat × Nat} (hm : c ∈ ordP t1 t2) : goodT (prodF op t1 t2) (idxK (ordP t1 t2) c) = op (goodT t1 c.1) (goodT t2 c.2) := by
  show (match (prodF op t1 t2).rows[idxK (ordP t1 t2) c]? with | some r => r.2.2 | none => false) = _
  unfold prodF
  dsimp only
  rw [List.getElem?_map, idxP_get hm]
  rfl
theorem prodF_goN (ok1 : Tok t1) (ok2 : Tok t2) (b : Bool) : ∀ (n : Nat) (c : Nat × Nat), c ∈ ordP t1 t2 → goN (prodF op t1 t2) b n (idxK (ordP t1 t2) c) = idxK (ordP t1 t2) (goN t1 b n c.1, goN t2 b n c.2) ∧ (goN t1 b n c.1, goN t2 b n c.2) ∈ ordP t1 t2
  | 0, c, hm => ⟨rfl, hm⟩
  | n + 1, c, hm => by
    have h1 := prodF_go (op := op) ok1 ok2 hm b
    have h2 := prodF_goN ok1 ok2 b n (goP t1 t2 c b) h1.2
    show goN _ b n (goT _ _ b) = _ ∧ _
    rw [h1.1]
    exact h2
theorem prodF_fold (ok1 : Tok t1) (ok2 : Tok t2) : ∀ (l : List (Bool × Nat)) (c : Nat × Nat), c ∈ ordP t1 t2 →
    goodT (prodF op t1 t2) (l.foldl (fun q r => goN (prodF op t1 t2) r.1 r.2 q) (idxK (ordP t1 t2) c)) = op (goodT t1 (l.foldl (fun q r => goN t1 r.1 r.2 q) c.1)) (goodT t2 (l.foldl (fun q r => goN t2 r.1 r.2 q) c.2))
  | [], c, hm => prodF_good hm
  | r :: l, c, hm => by
    have h1 := prodF_goN (op := op) ok1 ok2 r.1 r.2 c hm
    rw [List.foldl_cons, List.foldl_cons, List.foldl_cons, h1.1]
    exact prodF_fold ok1 ok2 l _ h1.2
theorem lcmN_ok (ok1 : Tok t1) (ok2 : Tok t2) : (lcmN t1.m t2.m = 1 ∨ lcmN t1.m t2.m = 2 ∨ lcmN t1.m t2.m = 3 ∨ lcmN t1.m t2.m = 6) ∧ t1.m ∣ lcmN t1.m t2.m ∧ t2.m ∣ lcmN t1.m t2.m := by
  rcases ok1.md with e | e | e | e <;> rcases ok2.md with q | q | q | q <;> rw [e, q] <;> decide
theorem flatT_mod {t : Tb} {M g : Nat} (hd : t.m ∣ M) : flatT t (g % M) = flatT t g := by
  unfold flatT
  rw [Nat.mod_mod_of_dvd g hd]
theorem steepT_mod {t : Tb} {M g : Nat} (hd : t.m ∣ M) : steepT t (g % M) = steepT t g := by
  unfold steepT
  rw [Nat.mod_mod_of_dvd g hd]
theorem begT_mod {t : Tb} {M g : Nat} (hd : t.m ∣ M) : begT t (g % M) = begT t g := by
  unfold begT
  rw [Nat.mod_mod_of_dvd g hd]
theorem prodF_rows (ok1 : Tok t1) (ok2 : Tok t2) : (prodF op t1 t2).rows.length ≤ t1.rows.length * t2.rows.length := by
  show ((ordP t1 t2).map _).length ≤ _
  rw [List.length_map]
  exact (ordP_l ok1 ok2).len
theorem prodF_ok (ok1 : Tok t1) (ok2 : Tok t2) (hN : t1.rows.length * t2.rows.length ≤ 1000) : Tok (prodF op t1 t2) := by
  have lm := lcmN_ok ok1 ok2
  have lb : (begP t1 t2).length = lcmN t1.m t2.m := by
    unfold begP
    rw [List.length_map, List.length_range]
  have ol := ordP_l ok1 ok2
  have lr : (prodF op t1 t2).rows.length = (ordP t1 t2).length := by
    show ((ordP t1 t2).map _).length = _
    rw [List.length_map]
  refine ⟨lm.1, ?_, ?_, ?_, ?_, ?_, ?_, ?_, ?_⟩
  · show ((List.range _).map _).length = _
    rw [List.length_map, List.length_range]
    rfl
  · show ((List.range _).map _).length = _
    rw [List.length_map, List.length_range]
    rfl
  · show ((begP t1 t2).map _).length = _
    rw [List.length_map, lb]
    rfl
  · rw [lr]
    have h0 : 0 < (begP t1 t2).length := by omega
    exact List.length_pos_of_mem (ordP_beg (List.getElem_mem h0))
  · rw [lr]
    exact Nat.le_trans ol.len hN
  · intro x hx
    obtain ⟨c, hc, rfl⟩ := List.mem_map.mp hx
    rw [lr]
    exact idxP_lt (ordP_beg hc)
  · intro r hr
    obtain ⟨c, hc, rfl⟩ := List.mem_map.mp hr
    rw [lr]
    exact idxP_lt (prK_closed (ordP_firsts ok1 ok2) ok1 ok2 hc true)
  · intro r hr
    obtain ⟨c, hc, rfl⟩ := List.mem_map.mp hr
    rw [lr]
    exact idxP_lt (prK_closed (ordP_firsts ok1 ok2) ok1 ok2 hc false)
/-- the table of two tells what the sign says -/
theorem prodF_has (ok1 : Tok t1) (ok2 : Tok t2) (x y : Nat) : hasT (prodF op t1 t2) x y = op (hasT t1 x y) (hasT t2 x y) := by
  have lm := lcmN_ok ok1 ok2
  have at_ : ∀ (f : Nat → Bool) (g : Nat), (((List.range (lcmN t1.m t2.m)).map f)[g % lcmN t1.m t2.m]?).getD false = f (g % lcmN t1.m t2.m) := fun f g => by
    rw [List.getElem?_map, List.getElem?_range (Nat.mod_lt _ (by omega))]
    rfl
  unfold hasT
  by_cases hy : y = 0
  · rw [if_pos hy, if_pos hy, if_pos hy]
    refine (at_ (fun g => op (flatT t1 g) (flatT t2 g)) _).trans ?_
    try dsimp only
    rw [flatT_mod lm.2.1, flatT_mod lm.2.2]
    rfl
  · rw [if_neg hy, if_neg hy, if_neg hy]
    by_cases hx : x = 0
    · rw [if_pos hx, if_pos hx, if_pos hx]
      refine (at_ (fun g => op (steepT t1 g) (steepT t2 g)) _).trans ?_
      try dsimp only
      rw [steepT_mod lm.2.1, steepT_mod lm.2.2]
      rfl
    · rw [if_neg hx, if_neg hx, if_neg hx]
      generalize Nat.gcd x y = g
      have hb : (begP t1 t2)[g % lcmN t1.m t2.m]? = some (begT t1 g, begT t2 g) := by
        unfold begP
        rw [List.getElem?_map, List.getElem?_range (Nat.mod_lt _ (by omega)), Option.map_some, begT_mod lm.2.1, begT_mod lm.2.2]
      have e : begT (prodF op t1 t2) g = idxK (ordP t1 t2) (begT t1 g, begT t2 g) := by
        show (((begP t1 t2).map (idxK (ordP t1 t2)))[g % lcmN t1.m t2.m]?).getD 0 = _
        rw [List.getElem?_map, hb]
        rfl
      rw [e]
      exact prodF_fold ok1 ok2 _ _ (ordP_beg (List.mem_of_getElem? hb))
end
/-! the other set -/
def otherF (t : Tb) : Tb := ⟨t.m, t.flats.map (!·), t.steeps.map (!·), t.starts, t.rows.map fun r => (r.1, r.2.1, !r.2.2)⟩
theorem otherF_ok {t : Tb} (ok : Tok t) : Tok (otherF t) := by
  have lr : (otherF t).rows.length = t.rows.length := by
    show (t.rows.map _).length = _
    rw [List.length_map]
  refine ⟨ok.md, ?_, ?_, ok.tl, ?_, ?_, ?_, ?_, ?_⟩
  · show (t.flats.map _).length = _
    rw [List.length_map]; exact ok.fl
  · show (t.steeps.map _).length = _
    rw [List.length_map]; exact ok.sl
  · rw [lr]; exact ok.r0
  · rw [lr]; exact ok.r1
  · intro s hs
    rw [lr]; exact ok.st s hs
  · intro r hr
    obtain ⟨q, hq, rfl⟩ := List.mem_map.mp hr
    rw [lr]; exact ok.rw1 q hq
  · intro r hr
    obtain ⟨q, hq, rfl⟩ := List.mem_map.mp hr
    rw [lr]; exact ok.rw2 q hq
theorem otherF_go {t : Tb} (s : Nat) (b : Bool) : goT (otherF t) s b = goT t s b := by
  unfold goT otherF
  dsimp only
  rw [List.getElem?_map]
  cases t.rows[s]? <;> rfl
theorem otherF_goN {t : Tb} (b : Bool) : ∀ (n s : Nat), goN (otherF t) b n s = goN t b n s
  | 0, _ => rfl
  | n + 1, s => by
    show goN (otherF t) b n (goT (otherF t) s b) = goN t b n (goT t s b)
    rw [otherF_go, otherF_goN b n]
theorem otherF_fold {t : Tb} : ∀ (l : List (Bool × Nat)) (s : Nat), l.foldl (fun q r => goN (otherF t) r.1 r.2 q) s = l.foldl (fun q r => goN t r.1 r.2 q) s
  | [], _ => rfl
  | r :: l, s => by
    rw [List.foldl_cons, List.foldl_cons, otherF_goN]
    exact otherF_fold l _
theorem otherF_has {t : Tb} (ok : Tok t) (x y : Nat) : hasT (otherF t) x y = !hasT t x y := by
  have hm := ok.m0.1
  have ng : ∀ (l : List Bool) (i : Nat), i < l.length → ((l.map (!·))[i]?).getD false = !((l[i]?).getD false) := fun l i hi => by
    rw [List.getElem?_map, List.getElem?_eq_getElem hi]
    rfl
  unfold hasT
  by_cases hy : y = 0
  · rw [if_pos hy, if_pos hy]
    exact ng t.flats _ (by rw [ok.fl]; exact Nat.mod_lt _ hm)
  · rw [if_neg hy, if_neg hy]
    by_cases hx : x = 0
    · rw [if_pos hx, if_pos hx]
      exact ng t.steeps _ (by rw [ok.sl]; exact Nat.mod_lt _ hm)
    · rw [if_neg hx, if_neg hx]
      have eb : begT (otherF t) (Nat.gcd x y) = begT t (Nat.gcd x y) := rfl
      rw [eb, otherF_fold]
      have hs : (R x y).reverse.foldl (fun q r => goN t r.1 r.2 q) (begT t (Nat.gcd x y)) < t.rows.length := by
        generalize (R x y).reverse = l
        have : ∀ (l : List (Bool × Nat)) (s : Nat), s < t.rows.length → l.foldl (fun s r => goN t r.1 r.2 s) s < t.rows.length := by
          intro l
          induction l with
          | nil => exact fun s hs => hs
          | cons r l ih =>
            have gl : ∀ (b : Bool) (n s : Nat), s < t.rows.length → goN t b n s < t.rows.length := by
              intro b n
              induction n with
              | zero => exact fun s hs => hs
              | succ n ihn => exact fun s hs => ihn _ (goT_lt ok hs b)
            exact fun s hs => ih _ (gl r.1 r.2 s hs)
        exact this l _ (beg_lt ok _)
      generalize (R x y).reverse.foldl (fun q r => goN t r.1 r.2 q) (begT t (Nat.gcd x y)) = s at *
      unfold goodT otherF
      dsimp only
      rw [List.getElem?_map, List.getElem?_eq_getElem hs]
      rfl
theorem leastF_rows {t : Tb} {f : Nat → Nat} {s : Nat} (ok : Tok t) (cl : Cls t f) : (leastF t f s).rows.length ≤ t.rows.length := by
  show ((ordF t f s).map _).length ≤ _
  rw [List.length_map]
  exact (ordF_l ok).len cl
end Bx
-- needs tables lang least eqs toldp
/-! marks of rows that words tell apart (the law's own way) -/
namespace Bx
open PySem PySem.Spec PyProof.Rows L2
theorem sub_len {α : Type} [DecidableEq α] : ∀ (l m : List α), l.Nodup → (∀ x ∈ l, x ∈ m) → l.length ≤ m.length
  | [], _, _, _ => Nat.zero_le _
  | x :: l, m, hn, h => by
    have hx := h x List.mem_cons_self
    have h1 := sub_len l (m.erase x) (List.nodup_cons.mp hn).2 fun y hy => (List.mem_erase_of_ne (fun e : y = x => (List.nodup_cons.mp hn).1 (by rw [← e]; exact hy))).mpr (h y (List.mem_cons_of_mem _ hy))
    rw [List.length_erase_of_mem hx] at h1
    have := List.length_pos_of_mem hx
    show l.length + 1 ≤ m.length
    omega
theorem flat_len {α β : Type} {f : α → List β} {c : Nat} : ∀ l : List α, (∀ x ∈ l, (f x).length = c) → (l.flatMap f).length = l.length * c
  | [], _ => by rw [List.flatMap_nil, List.length_nil, List.length_nil, Nat.zero_mul]
  | x :: l, h => by
    rw [List.flatMap_cons, List.length_append, h x List.mem_cons_self, flat_len l fun y hy => h y (List.mem_cons_of_mem _ hy), List.length_cons, Nat.succ_mul, Nat.add_comm]
/-- all pairs of two different numbers -/
def offD (n : Nat) : List (Nat × Nat) := (List.range n).flatMap fun a => ((List.range n).erase a).map fun b => (a, b)
theorem offD_mem {n : Nat} {c : Nat × Nat} : c ∈ offD n ↔ c.1 < n ∧ c.2 < n ∧ c.1 ≠ c.2 := by
  unfold offD
  rw [List.mem_flatMap]
  constructor
  · rintro ⟨a, ha, h⟩
    obtain ⟨b, hb, rfl⟩ := List.mem_map.mp h
    have := (List.nodup_range.mem_erase_iff).mp hb
    exact ⟨List.mem_range.mp ha, List.mem_range.mp this.2, fun e => this.1 e.symm⟩
  · rintro ⟨h1, h2, h3⟩
    exact ⟨c.1, List.mem_range.mpr h1, List.mem_map.mpr ⟨c.2, (List.nodup_range.mem_erase_iff).mpr ⟨fun e => h3 e.symm, List.mem_range.mpr h2⟩, rfl⟩⟩
theorem offD_len (n : Nat) : (offD n).length = n * (n - 1) := by
  unfold offD
  rw [flat_len (c := n - 1), List.length_range]
  intro a ha
  rw [List.length_map, List.length_erase_of_mem ha, List.length_range]
theorem offD_nodup (n : Nat) : (offD n).Nodup := by
  unfold offD List.Nodup
  rw [List.pairwise_flatMap]
  refine ⟨fun a ha => ?_, ?_⟩
  · rw [List.pairwise_map]
    exact (List.nodup_range.erase a).imp fun h e => h (Prod.mk.inj e).2
  · refine (List.nodup_range (n := n)).imp fun h x hx y hy e => ?_
    obtain ⟨_, _, rfl⟩ := List.mem_map.mp hx
    obtain ⟨_, _, rfl⟩ := List.mem_map.mp hy
    exact h (Prod.mk.inj e).1
theorem off_count {n : Nat} {M : List (Nat × Nat)} (hn : M.Nodup) (h : ∀ c, c ∈ M ↔ c.1 < n ∧ c.2 < n ∧ c.1 ≠ c.2) : M.length = n * (n - 1) := by
  rw [← offD_len]
  exact Nat.le_antisymm (sub_len _ _ hn fun c hc => offD_mem.mpr ((h c).mp hc)) (sub_len _ _ (offD_nodup n) fun c hc => (h c).mpr (offD_mem.mp hc))

def ClosedT (t : Tb) : Prop := ∀ s b, s < t.rows.length → goT t s b < t.rows.length
/-- marks of pairs that some word tells apart -/
structure Marks (t : Tb) (M : List (Nat × Nat)) : Prop where
  nd : M.Nodup
  lt : ∀ c ∈ M, c.1 < t.rows.length ∧ c.2 < t.rows.length
  ap : ∀ c ∈ M, ¬ lang t c.1 c.2
/-- is a pair marked in this turn -/
def mkB (t : Tb) (M : List (Nat × Nat)) (a b : Nat) : Bool := decide ((a, b) ∉ M) && (decide ((goT t a true, goT t b true) ∈ M) || decide ((goT t a false, goT t b false) ∈ M))
def mkR (t : Tb) (p : Nat → Bool) (a : Nat) : List (Nat × Nat) := ((List.range t.rows.length).filter p).map fun b => (a, b)
theorem Marks.more {t : Tb} {M : List (Nat × Nat)} {p : Nat → Bool} {a : Nat} (h : Marks t M) (ha : a < t.rows.length) (h1 : ∀ b, b < t.rows.length → p b = true → (a, b) ∉ M) (h2 : ∀ b, b < t.rows.length → p b = true → ¬ lang t a b) : Marks t (M ++ mkR t p a) := by
  have hm : ∀ c ∈ mkR t p a, ∃ b, b < t.rows.length ∧ p b = true ∧ c = (a, b) := fun c hc => by
    obtain ⟨b, hb, e⟩ := List.mem_map.mp hc
    have := List.mem_filter.mp hb
    exact ⟨b, List.mem_range.mp this.1, this.2, e.symm⟩
  refine ⟨?_, fun c hc => ?_, fun c hc => ?_⟩
  · rw [List.nodup_append]
    refine ⟨h.nd, ?_, fun x hx y hy e => ?_⟩
    · unfold mkR List.Nodup
      rw [List.pairwise_map]
      exact ((List.nodup_range).filter p).imp fun h e => h (Prod.mk.inj e).2
    · obtain ⟨b, b1, b2, b3⟩ := hm y hy
      exact h1 b b1 b2 (by rw [← b3, ← e]; exact hx)
  · rcases List.mem_append.mp hc with z | z
    · exact h.lt c z
    · obtain ⟨b, b1, b2, rfl⟩ := hm c z
      exact ⟨ha, b1⟩
  · rcases List.mem_append.mp hc with z | z
    · exact h.ap c z
    · obtain ⟨b, b1, b2, rfl⟩ := hm c z
      exact h2 b b1 b2
theorem Marks.turn {t : Tb} {M : List (Nat × Nat)} {a : Nat} (h : Marks t M) (ha : a < t.rows.length) : Marks t (M ++ mkR t (mkB t M a) a) := by
  refine h.more ha (fun b hb q => ?_) fun b hb q => ?_
  · unfold mkB at q
    rw [Bool.and_eq_true, decide_eq_true_iff] at q
    exact q.1
  · unfold mkB at q
    rw [Bool.and_eq_true, Bool.or_eq_true, decide_eq_true_iff, decide_eq_true_iff, decide_eq_true_iff] at q
    rcases q.2 with z | z
    · exact fun l => h.ap _ z fun w => l (true :: w)
    · exact fun l => h.ap _ z fun w => l (false :: w)
theorem Marks.len {t : Tb} {M : List (Nat × Nat)} (h : Marks t M) : M.length ≤ t.rows.length * t.rows.length := by
  have e := flat_len (f := fun a => (List.range t.rows.length).map fun b => (a, b)) (c := t.rows.length) (List.range t.rows.length) fun x hx => by rw [List.length_map, List.length_range]
  rw [List.length_range] at e
  rw [← e]
  refine sub_len _ _ h.nd fun c hc => ?_
  obtain ⟨h1, h2⟩ := h.lt c hc
  exact List.mem_flatMap.mpr ⟨c.1, List.mem_range.mpr h1, List.mem_map.mpr ⟨c.2, List.mem_range.mpr h2, rfl⟩⟩
theorem mkR_nil {t : Tb} {p : Nat → Bool} {a : Nat} (h : mkR t p a = []) {b : Nat} (hb : b < t.rows.length) : p b = false := by
  unfold mkR at h
  cases q : p b with
  | false => rfl
  | true =>
    have := List.mem_map_of_mem (f := fun b => (a, b)) (List.mem_filter.mpr ⟨List.mem_range.mpr hb, q⟩)
    rw [h] at this
    cases this
/-- nothing was added in a whole round: the rest is told alike -/
theorem marks_done {t : Tb} {M : List (Nat × Nat)} (cl : ClosedT t) (h : Marks t M) (hg : ∀ a b, a < t.rows.length → b < t.rows.length → goodT t a ≠ goodT t b → (a, b) ∈ M) (hn : ∀ a, a < t.rows.length → mkR t (mkB t M a) a = []) :
    ∀ a b, a < t.rows.length → b < t.rows.length → (a, b) ∉ M → lang t a b := by
  intro a b ha hb hm w
  revert a b
  induction w with
  | nil =>
    intro a b ha hb hm
    by_cases e : goodT t a = goodT t b
    · exact e
    · exact absurd (hg a b ha hb e) hm
  | cons l w ih =>
    intro a b ha hb hm
    refine ih _ _ (cl a l ha) (cl b l hb) fun z => ?_
    have q := mkR_nil (hn a ha) hb
    unfold mkB at q
    rw [decide_eq_true hm, Bool.true_and, Bool.or_eq_false_iff, decide_eq_false_iff_not, decide_eq_false_iff_not] at q
    cases l
    · exact q.2 z
    · exact q.1 z
theorem marks_count {t : Tb} {M : List (Nat × Nat)} (cl : ClosedT t) (h : Marks t M) (hg : ∀ a b, a < t.rows.length → b < t.rows.length → goodT t a ≠ goodT t b → (a, b) ∈ M) (hn : ∀ a, a < t.rows.length → mkR t (mkB t M a) a = [])
    (ap : ∀ a b, a < t.rows.length → b < t.rows.length → lang t a b → a = b) : M.length = t.rows.length * (t.rows.length - 1) := by
  refine off_count h.nd fun c => ⟨fun hc => ⟨(h.lt c hc).1, (h.lt c hc).2, fun e => h.ap c hc (by rw [e]; exact fun _ => rfl)⟩, fun hc => ?_⟩
  by_cases z : c ∈ M
  · exact z
  · exact absurd (ap _ _ hc.1 hc.2.1 (marks_done cl h hg hn c.1 c.2 hc.1 hc.2.1 z)) hc.2.2
end Bx

namespace Bx
open PySem PySem.Spec PyProof.Rows L2
def markD (c : Nat × Nat) : PyData := .tuple [.int (c.1 : Int), .int (c.2 : Int)]
theorem markD_shp (c : Nat × Nat) : SeqAt.shaped (markD c) = true := rfl
theorem markD_lay (c : Nat × Nat) : (markD c).canLay0 = true := rfl
theorem markDs_shp (M : List (Nat × Nat)) : SeqAt.shaped (.list (M.map markD)) = true := shp_list (n := 1) markD_lay (fun _ => Nat.le_refl 1) (by decide) M
theorem markD_eqv (a b : Nat × Nat) : PyData.eqv (markD a) (markD b) = decide (a = b) := by
  obtain ⟨a1, a2⟩ := a
  obtain ⟨b1, b2⟩ := b
  unfold markD
  simp only [PyData.eqv, PyData.eqvAll]
  rw [show ((a1 : Int) == (b1 : Int)) = decide (a1 = b1) from eqv_intN a1 b1, show ((a2 : Int) == (b2 : Int)) = decide (a2 = b2) from eqv_intN a2 b2]
  by_cases h1 : a1 = b1 <;> by_cases h2 : a2 = b2 <;> simp [h1, h2]
theorem mark_any (M : List (Nat × Nat)) (c : Nat × Nat) : ((M.map markD).any fun z => PyData.eqv z (markD c)) = decide (c ∈ M) := by
  induction M with
  | nil => simp
  | cons x M ih =>
    rw [List.map_cons, List.any_cons, ih, markD_eqv, Bool.eq_iff_iff, Bool.or_eq_true, decide_eq_true_iff, decide_eq_true_iff, decide_eq_true_iff, List.mem_cons]
    exact ⟨fun h => h.imp Eq.symm id, fun h => h.imp Eq.symm id⟩
theorem markD_at {K : PySem.W.Frag} {H : Hp} {p : Addr} {c : Nat × Nat} (h : H p = some (.tup (pairV c))) : Dp K H (.ref p) (markD c) := .tup (SqT.of h) (.cons (.int _) (.cons (.int _) .nil))
theorem PairsL.dps {K : PySem.W.Frag} {H : Hp} : ∀ {us : List V} {M : List (Nat × Nat)}, PairsL H us M → DpAll K H us (M.map markD)
  | [], [], _ => .nil
  | [], _ :: _, h => by cases h.1
  | _ :: _, [], h => by cases h.1
  | u :: us, c :: M, h => by
    obtain ⟨p, h1, h2⟩ := h.2 0 c rfl
    cases h1
    exact .cons (markD_at h2) (PairsL.dps ⟨Nat.succ.inj h.1, fun j d hd => h.2 (j + 1) d hd⟩)
theorem PairsL.app {H : Hp} {us ws : List V} {M X : List (Nat × Nat)} (h : PairsL H us M) (g : PairsL H ws X) : PairsL H (us ++ ws) (M ++ X) := by
  refine ⟨by rw [List.length_append, List.length_append, h.1, g.1], fun j c hc => ?_⟩
  by_cases hj : j < M.length
  · rw [List.getElem?_append_left hj] at hc
    obtain ⟨p, h1, h2⟩ := h.2 j c hc
    exact ⟨p, by rw [List.getElem?_append_left (by rw [h.1]; exact hj)]; exact h1, h2⟩
  · rw [List.getElem?_append_right (by omega)] at hc
    obtain ⟨p, h1, h2⟩ := g.2 _ c hc
    refine ⟨p, ?_, h2⟩
    rw [List.getElem?_append_right (by rw [h.1]; omega), h.1]
    exact h1
theorem atI_0 {xs : List V} {i : Nat} {v : V} (h : xs[i]? = some v) : atI xs (0 + (i : Int)) = some v := by
  rw [Int.zero_add]
  exact atI_nat h
theorem hu65_of {A : Around} {k : Nat} (hr : Room k A) : A.units + 65 < cLine := Nat.lt_of_le_of_lt (by omega) hr.un
/-- a row's parts, by the number of the row -/
theorem row_parts {K : PySem.W.Frag} {H : Hp} {t : Tb} {us : List V} (hrow : ∀ (i : Nat) (r : Nat × Nat × Bool), t.rows[i]? = some r → ∃ p, us[i]? = some (.ref p) ∧ SqT K H p [.int (r.1 : Int), .int (r.2.1 : Int), .bl r.2.2]) {i : Nat} (hi : i < t.rows.length) :
    ∃ p, us[i]? = some (.ref p) ∧ SqT K H p [.int ((goT t i true : Nat) : Int), .int ((goT t i false : Nat) : Int), .bl (goodT t i)] := by
  have h := List.getElem?_eq_getElem hi
  obtain ⟨p, h1, h2⟩ := hrow i _ h
  refine ⟨p, h1, ?_⟩
  unfold goT goodT
  rw [h]
  exact h2
end Bx
-- needs prog dictN apart
/-! the control states of a program, as data and as keys; there are not many -/
namespace Bx
open PySem PySem.Spec PyProof.Rows L2
structure S9 where
  at_ : Nat
  vs : List Nat
  x : Nat
  y : Nat
deriving DecidableEq
def natsT (ns : List Nat) : PyData := .tuple (ns.map fun n : Nat => .int (n : Int))
def S9.d (s : S9) : PyData := .tuple [.int (s.at_ : Int), natsT s.vs, .tuple [.int (s.x : Int), .int (s.y : Int)]]
structure S9.Ok (n m : Nat) (s : S9) : Prop where
  lt : s.at_ < n
  len : s.vs.length = 3
  v3 : ∀ v ∈ s.vs, v ≤ 3
  xm : s.x < m
  ym : s.y < m
theorem natsT_nl (ns : List Nat) : noL (natsT ns) = true := by
  show noLs (ns.map _) = true
  exact noLs_of fun d hd => by
    obtain ⟨n, _, rfl⟩ := List.mem_map.mp hd
    rfl
theorem S9.nl (s : S9) : noL s.d = true := by
  show noLs [.int (s.at_ : Int), natsT s.vs, .tuple [.int (s.x : Int), .int (s.y : Int)]] = true
  rw [noLs, noLs, natsT_nl]
  rfl
theorem s9_nls (ss : List S9) : noLs (ss.map S9.d) = true := noLs_of fun d hd => by
  obtain ⟨l, _, rfl⟩ := List.mem_map.mp hd
  exact l.nl
def S9.key (s : S9) : NestedKey := keyN s.d
theorem keyNs_map : ∀ ns : List Nat, keyNs (ns.map fun n : Nat => PyData.int (n : Int)) = ns.map fun n : Nat => NestedKey.num (n : Int)
  | [] => rfl
  | n :: ns => by
    rw [List.map_cons, keyNs, keyNs_map ns]
    rfl
theorem S9.key_eq (s : S9) : s.key = .tup [.num (s.at_ : Int), .tup (s.vs.map fun n : Nat => NestedKey.num (n : Int)), .tup [.num (s.x : Int), .num (s.y : Int)]] := by
  unfold S9.key S9.d natsT
  rw [keyN, keyNs, keyNs, keyN, keyN, keyNs_map]
  rfl
theorem nums_inj : ∀ {a b : List Nat}, (a.map fun n : Nat => NestedKey.num (n : Int)) = (b.map fun n : Nat => NestedKey.num (n : Int)) → a = b
  | [], [], _ => rfl
  | [], _ :: _, h => by cases h
  | _ :: _, [], h => by cases h
  | x :: a, y :: b, h => by
    rw [List.map_cons, List.map_cons] at h
    injection h with h1 h2
    injection h1 with h1
    rw [nums_inj h2, show x = y by omega]
theorem S9.key_inj {s t : S9} (h : s.key = t.key) : s = t := by
  rw [S9.key_eq, S9.key_eq] at h
  obtain ⟨a, vs, x, y⟩ := s
  obtain ⟨a', vs', x', y'⟩ := t
  simp only [NestedKey.tup.injEq, List.cons.injEq, NestedKey.num.injEq, and_true] at h
  obtain ⟨h1, h2, h3, h4⟩ := h
  have := nums_inj h2
  subst this
  rw [show a = a' by omega, show x = x' by omega, show y = y' by omega]
theorem S9.depth (s : S9) : s.key.depth ≤ 8 := by
  rw [S9.key_eq]
  have h : ∀ ns : List Nat, NestedKey.depthAll (ns.map fun n : Nat => NestedKey.num (n : Int)) ≤ 1 := fun ns => by
    induction ns with
    | nil => exact Nat.zero_le _
    | cons n ns ih =>
      rw [List.map_cons, NestedKey.depthAll]
      exact Nat.max_le.mpr ⟨by rw [NestedKey.depth]; exact Nat.zero_le _, ih⟩
  have := h s.vs
  simp only [NestedKey.depth, NestedKey.depthAll]
  omega
theorem S9.keyA {K : PySem.W.Frag} {H : Hp} {b : Addr} {s : S9} (h : Dp K H (.ref b) s.d) : KeyA K H s.key b := ⟨s.d, h, s.nl, rfl, s.depth⟩
theorem S9.at_ref {K : PySem.W.Frag} {H : Hp} {v : V} {s : S9} (h : Dp K H v s.d) : ∃ a, v = .ref a := by
  obtain ⟨a, _, e, _⟩ := Dp.tup' h
  exact ⟨a, e⟩
def tri4 : List (List Nat) := (List.range 4).flatMap fun i => (List.range 4).flatMap fun j => (List.range 4).map fun k => [i, j, k]
def uniS (n : Nat) : List S9 := (List.range n).flatMap fun i => tri4.flatMap fun v => (List.range 6).flatMap fun x => (List.range 6).map fun y => ⟨i, v, x, y⟩
theorem flat_lenC {α β : Type} {f : α → List β} {c : Nat} : ∀ {l : List α}, (∀ a ∈ l, (f a).length = c) → (l.flatMap f).length = l.length * c
  | [], _ => by rw [List.flatMap_nil, List.length_nil, List.length_nil, Nat.zero_mul]
  | a :: l, h => by
    rw [List.flatMap_cons, List.length_append, h a List.mem_cons_self, flat_lenC fun b hb => h b (List.mem_cons_of_mem _ hb), List.length_cons, Nat.succ_mul, Nat.add_comm]
theorem uniS_len (n : Nat) : (uniS n).length = n * 2304 := by
  unfold uniS
  have h : ∀ i : Nat, (tri4.flatMap fun v => (List.range 6).flatMap fun x => (List.range 6).map fun y => (⟨i, v, x, y⟩ : S9)).length = 2304 := fun i => by
    rw [flat_lenC (c := 36) fun v _ => by rw [flat_lenC (c := 6) fun x _ => by rw [List.length_map, List.length_range], List.length_range]]
    rfl
  rw [flat_lenC fun i _ => h i, List.length_range]
theorem uniS_mem {n m : Nat} {s : S9} (hm : m ≤ 6) (h : s.Ok n m) : s ∈ uniS n := by
  obtain ⟨a, vs, x, y⟩ := s
  obtain ⟨h1, h2, h3, h4, h5⟩ := h
  match vs, h2 with
  | [i, j, k], _ =>
    have hi := h3 i (by simp)
    have hj := h3 j (by simp)
    have hk := h3 k (by simp)
    have h4 : x < m := h4
    have h5 : y < m := h5
    refine List.mem_flatMap.mpr ⟨a, List.mem_range.mpr h1, List.mem_flatMap.mpr ⟨[i, j, k], ?_, List.mem_flatMap.mpr ⟨x, List.mem_range.mpr (by omega), List.mem_map.mpr ⟨y, List.mem_range.mpr (by omega), rfl⟩⟩⟩⟩
    exact List.mem_flatMap.mpr ⟨i, List.mem_range.mpr (by omega), List.mem_flatMap.mpr ⟨j, List.mem_range.mpr (by omega), List.mem_map.mpr ⟨k, List.mem_range.mpr (by omega), rfl⟩⟩⟩
/-- what the dict of the known states knows: just the found ones -/
structure Knw (K : PySem.W.Frag) (H : Hp) (kvs : List EnN) (ss : List S9) : Prop where
  at_ : ∀ p ∈ kvs, KeyA K H p.1 p.2.1
  has : ∀ s : S9, hasN kvs s.key = decide (s ∈ ss)
  len : kvs.length ≤ ss.length
theorem Knw.sameT {K : PySem.W.Frag} {H H' : Hp} {kvs : List EnN} {ss : List S9} (e : SameT H H') (h : Knw K H kvs ss) : Knw K H' kvs ss := ⟨fun p hp => (h.at_ p hp).sameT e, h.has, h.len⟩
theorem hasN_put (kvs : List EnN) (k k' : NestedKey) (b : Addr) (v : V) : hasN (putN kvs k b v) k' = (hasN kvs k' || decide (k = k')) := by
  unfold putN
  by_cases c : hasN kvs k = true
  · rw [if_pos c]
    have e : ∀ l : List EnN, hasN (l.map fun p => if p.1 = k then (p.1, p.2.1, v) else p) k' = hasN l k' := fun l => by
      unfold hasN
      rw [List.any_map]
      congr 1
      funext p
      show decide ((if p.1 = k then (p.1, p.2.1, v) else p).1 = k') = _
      split <;> rfl
    rw [e]
    by_cases q : k = k'
    · subst q
      rw [c, Bool.true_or]
    · rw [decide_eq_false q, Bool.or_false]
  · rw [if_neg c]
    unfold hasN
    rw [List.any_append]
    simp
theorem Knw.push {K : PySem.W.Frag} {H : Hp} {kvs : List EnN} {ss : List S9} {s : S9} {b : Addr} {v : V} (h : Knw K H kvs ss) (hb : KeyA K H s.key b) : Knw K H (putN kvs s.key b v) (ss ++ [s]) := by
  refine ⟨fun p hp => ?_, fun t => ?_, ?_⟩
  · unfold putN at hp
    split at hp
    · obtain ⟨q, hq, rfl⟩ := List.mem_map.mp hp
      have := h.at_ q hq
      split <;> exact this
    · rcases List.mem_append.mp hp with hp | hp
      · exact h.at_ p hp
      · rw [List.mem_singleton.mp hp]; exact hb
  · rw [hasN_put, h.has, Bool.eq_iff_iff, Bool.or_eq_true, decide_eq_true_iff, decide_eq_true_iff, decide_eq_true_iff, List.mem_append, List.mem_singleton]
    constructor
    · rintro (h | h)
      · exact .inl h
      · exact .inr (S9.key_inj h).symm
    · rintro (h | h)
      · exact .inl h
      · exact .inr (by rw [h])
  · have := putN_len kvs s.key b v
    have := h.len
    rw [List.length_append, List.length_singleton]
    omega
/-! tuples stay, whatever else changes -/
def TFx : HO → Prop
  | .tup _ => True
  | .frz _ (.tup _) => True
  | _ => False
def TupX (H H' : Hp) : Prop := ∀ a o, H a = some o → TFx o → H' a = some o
theorem TupX.refl (H : Hp) : TupX H H := fun _ _ h _ => h
theorem TupX.trans {H H1 H2 : Hp} (x : TupX H H1) (y : TupX H1 H2) : TupX H H2 := fun a o h n => y a o (x a o h n) n
theorem TupX.of {H H' : Hp} (e : Same H H') : TupX H H' := fun a o h _ => e a o h
theorem TupX.put {H : Hp} {a : Addr} {u o : HO} (h : H a = some u) (n : ¬ TFx u) : TupX H (L2.upd H a o) := fun b u' q t => by
  have nb : b ≠ a := fun z => by
    rw [z, h] at q
    cases q
    exact n t
  rw [upd_ne nb]
  exact q
theorem TupX.putL {H : Hp} {a : Addr} {xs : List V} {o : HO} (h : H a = some (.lst xs)) : TupX H (L2.upd H a o) := .put h id
theorem TupX.putN {P : Program} {w : World} {H : Hp} {a b : Addr} {kvs : List EnN} {o : HO} (h : H a = some (dN P w b kvs)) : TupX H (L2.upd H a o) := .put h id
theorem TupX.seqT {K : PySem.W.Frag} {H H' : Hp} {a : Addr} {xs : List V} (e : TupX H H') (h : SqT K H a xs) : SqT K H' a xs := by
  rcases h with (h | ⟨o, h⟩) | h
  · exact .inl (.inl (e _ _ h trivial))
  · exact .inl (.inr ⟨o, e _ _ h trivial⟩)
  · exact .inr h
mutual
theorem Dp.tupX {K : PySem.W.Frag} {H H' : Hp} (e : TupX H H') : ∀ {d : PyData} {v : V}, noL d = true → Dp K H v d → Dp K H' v d
  | .none, _, _, h => by cases h; exact .non
  | .bool _, _, _, h => by cases h; exact .bl _
  | .int _, _, _, h => by cases h; exact .int _
  | .str _, _, _, h => by cases h; exact .str _
  | .list _, _, n, _ => by cases n
  | .tuple _, _, n, h => by
    cases h with
    | tup hs ha => exact .tup (e.seqT hs) (Dp.tupXs e (by rw [noL] at n; exact n) ha)
  | .dict _, _, _, h => by cases h
theorem Dp.tupXs {K : PySem.W.Frag} {H H' : Hp} (e : TupX H H') : ∀ {ds : List PyData} {vs : List V}, noLs ds = true → DpAll K H vs ds → DpAll K H' vs ds
  | [], _, _, h => by cases h; exact .nil
  | _ :: _, _, n, h => by
    cases h with
    | cons h1 h2 =>
      rw [noLs, Bool.and_eq_true] at n
      exact .cons (Dp.tupX e n.1 h1) (Dp.tupXs e n.2 h2)
end
theorem KeyA.tupX {K : PySem.W.Frag} {H H' : Hp} {k : NestedKey} {b : Addr} (e : TupX H H') (h : KeyA K H k b) : KeyA K H' k b := by
  obtain ⟨d, h1, h2, h3⟩ := h.ex
  exact ⟨d, Dp.tupX e h2 h1, h2, h3⟩
theorem Knw.tupX {K : PySem.W.Frag} {H H' : Hp} {kvs : List EnN} {ss : List S9} (e : TupX H H') (h : Knw K H kvs ss) : Knw K H' kvs ss := ⟨fun p hp => (h.at_ p hp).tupX e, h.has, h.len⟩
/-- a list of states is a list of addresses -/
theorem refs_of {K : PySem.W.Frag} {H : Hp} : ∀ {ss : List S9} {us : List V}, DpAll K H us (ss.map S9.d) → ∃ as : List Addr, us = as.map V.ref ∧ as.length = ss.length ∧ ∀ q ∈ ss.zip as, KeyA K H q.1.key q.2
  | [], us, h => by cases h; exact ⟨[], rfl, rfl, fun q hq => absurd hq List.not_mem_nil⟩
  | s :: ss, us, h => by
    cases h with
    | cons h1 h2 =>
      obtain ⟨a, rfl⟩ := S9.at_ref h1
      obtain ⟨as, rfl, h3, h4⟩ := refs_of h2
      refine ⟨a :: as, rfl, by rw [List.length_cons, List.length_cons, h3], fun q hq => ?_⟩
      rw [List.zip_cons_cons] at hq
      rcases List.mem_cons.mp hq with rfl | hq
      · exact S9.keyA h1
      · exact h4 q hq
theorem Knw.merge {K : PySem.W.Frag} {H : Hp} {v : V} : ∀ (l : List (S9 × Addr)) {kvs : List EnN} {ss : List S9}, Knw K H kvs ss → (∀ q ∈ l, KeyA K H q.1.key q.2) → Knw K H (mergeN kvs (l.map fun q => (q.1.key, q.2, v))) (ss ++ l.map Prod.fst)
  | [], kvs, ss, h, _ => by
    rw [List.map_nil, List.map_nil, List.append_nil]
    exact h
  | q :: l, kvs, ss, h, hk => by
    rw [List.map_cons, List.map_cons]
    have h1 := Knw.merge (v := v) l (h.push (v := v) (hk q List.mem_cons_self)) fun p hp => hk p (List.mem_cons_of_mem _ hp)
    rw [List.append_assoc] at h1
    exact h1
theorem paired_of {α β : Type} {F : α → β → Prop} : ∀ {l1 : List α} {l2 : List β}, l1.length = l2.length → (∀ (j : Nat) a b, l1[j]? = some a → l2[j]? = some b → F a b) → Paired F l1 l2
  | [], [], _, _ => .nil
  | [], _ :: _, h, _ => by cases h
  | _ :: _, [], h, _ => by cases h
  | a :: l1, b :: l2, h, hF => .cons (hF 0 a b rfl rfl) (paired_of (by rw [List.length_cons, List.length_cons] at h; omega) fun j x y hx hy => hF (j + 1) x y hx hy)
def st0 (m k : Nat) : S9 := ⟨0, [0, 0, 0], k / m, k % m⟩
theorem st0_nodup {m : Nat} (h : 0 < m) : ∀ n, ((List.range n).map (st0 m)).Nodup := fun n => by
  refine List.Pairwise.map _ (fun a b hab e => hab ?_) List.nodup_range
  unfold st0 at e
  injection e with _ _ e1 e2
  have h1 := Nat.div_add_mod a m
  have h2 := Nat.div_add_mod b m
  rw [e1, e2] at h1
  omega
end Bx
namespace Bx
open PySem PySem.Spec PyProof.Rows L2
theorem tn {σ : L2.St} {H : Hp} {P : List V → Hp → Prop} (h : P [] H) : tNil σ H P := h
end Bx
-- needs clsops
-- imports OpenK.KOps
namespace Bx
open PySem PySem.Spec PyProof.Rows L2
section
variable {X : Cx} {CX : CXT} {k : Nat} {C f : Addr} {sp : Sp} {E : XK}
/-- len(x) by C's own __len__ -/
def rLenI (C : Addr) (sp : Sp) (E : XK) : List V → Hp → VK → Prop := fun vs H Q => ∃ a, vs = [.ref a] ∧ InsAt C H a ∧ sp [.ref a] H (fun v H' => ∃ n : Nat, v = .int (n : Int) ∧ n < 2 ^ 62 ∧ Q (.int (n : Int)) H') E
theorem cr_lenI (hs : Meth X.K C "__len__" f) (F : FnR X.prog X.w X.K X.mg X.base CX k f sp) (hr : Room (k + 1) X.A) (hx : Passes CX X E) : CallR X (.builtin "len") (rLenI C sp E) := by
  intro pins s σ H vs us Q I r h
  obtain ⟨a, rfl, ⟨dx, fs, ha⟩, hsp⟩ := h
  rw [Vals.ref1 r]
  obtain ⟨mA, O, _⟩ := ins_get I.hok ha
  obtain ⟨od, J, _⟩ := O.look
  obtain ⟨m', hF⟩ := I.fr
  refine PySem.W.len_K hF I.ok.mod.kin J hs.at_ (by exact hs.fn) ?_
  refine wpAny_call (codeAny_mono (F X.A.in1 X.stack s H [.ref a] [.ref a] _ E hr.in1 I.env0.in1 (.cons rfl .nil) hsp) fun r s' hq => ?_)
  cases r with
  | error e => exact hx pins σ H s e s' I hq
  | ok fl =>
    cases fl with
    | ret u =>
      obtain ⟨v, H1, I1, rv, n, ev, hn, q⟩ := I.after hq
      subst ev
      obtain ⟨t, rfl⟩ := rv
      exact ⟨⟨by omega, by omega⟩, ⟨.int _, H1, I1.tok _, ⟨_, rfl⟩, q⟩⟩
    | next => exact False.elim hq
    | brk => exact False.elim hq
    | cont => exact False.elim hq
/-- repr(x) by C's own __repr__ -/
def rReprI (C : Addr) (sp : Sp) (E : XK) : List V → Hp → VK → Prop := fun vs H Q => ∃ a, vs = [.ref a] ∧ InsAt C H a ∧ sp [.ref a] H (fun v H' => ∃ z : Str, v = .str z ∧ Q (.str z) H') E
theorem cr_reprI (hs : Meth X.K C "__repr__" f) (F : FnR X.prog X.w X.K X.mg X.base CX k f sp) (hr : Room (k + 1) X.A) (hx : Passes CX X E) : CallR X (.builtin "repr") (rReprI C sp E) := by
  intro pins s σ H vs us Q I r h
  obtain ⟨a, rfl, ⟨dx, fs, ha⟩, hsp⟩ := h
  rw [Vals.ref1 r]
  obtain ⟨mA, O, _⟩ := ins_get I.hok ha
  obtain ⟨od, J, _⟩ := O.look
  obtain ⟨m', hF⟩ := I.fr
  refine PySem.W.repr_K hr.in1.units0 hF I.ok.mod.kin J hs.at_ (by exact hs.fn) ?_
  refine wpAny_call (codeAny_mono (F X.A.in1 X.stack s H [.ref a] [.ref a] _ E hr.in1 I.env0.in1 (.cons rfl .nil) hsp) fun r s' hq => ?_)
  cases r with
  | error e => exact hx pins σ H s e s' I hq
  | ok fl =>
    cases fl with
    | ret u =>
      obtain ⟨v, H1, I1, rv, z, ev, q⟩ := I.after hq
      subst ev
      obtain ⟨t, rfl⟩ := rv
      exact ⟨.str _, H1, I1, ⟨_, rfl⟩, q⟩
    | next => exact False.elim hq
    | brk => exact False.elim hq
    | cont => exact False.elim hq
end
end Bx
namespace Lw
open PySem PySem.Spec PyProof.Rows L2 Bx
section
variable {P : Program} {w : World} {K : PySem.W.Frag} {mg : Str → Option Value} {base : Heap}
/-! ### Program.__len__ -/
def sp_Program___len__ (K : PySem.W.Frag) : Sp := fun vs H Q _ => ∃ (a : Addr) (us : List V) (ls : List Lin), vs = [.ref a] ∧ ProgAt K H a us ls ∧ Q (.int ((ls.length : Nat) : Int)) H

theorem sc_Program___len__ : FnScope ["self"] ["self"] (defScope s_Program___len__) := ⟨rfl, rfl, rfl, by decide +kernel, rfl, by decide +kernel, by decide +kernel⟩
theorem ok_Program___len__ (E : En K mg) : GoodM P w K mg base CX0 1 (He.ma K (He.ga K "Program") "__len__") ["self"] (sp_Program___len__ K) := by
  obtain ⟨fd, F⟩ := E.says.def_ 0 (d := d_Program___len__) rfl
  refine ⟨fd, ?_, F.bindsN fun _ _ _ _ _ _ us hl => match us, hl with | [_], _ => rfl⟩
  refine F.ok sc_Program___len__ (fun vs H Q E' h => ?_) (fun cdv A outer s H vs Q E' hr h => ?_)
  · obtain ⟨a, us, ls, rfl, _⟩ := h; rfl
  · have hu64 := hu64_of hr
    refine ⟨_, PSs.nox (pss_one (ps_ret (pe_callB call_len_seq (by rfl) (E.fr "len") (by decide +kernel) (pa_cons (pe_fld (pv 0) (by rfl)) pa_nil)))), ?_⟩
    obtain ⟨a, us, ls, rfl, hP, k⟩ := h
    obtain ⟨dx, rp, h1, h2, h3⟩ := hP.ex
    rw [← hP.len] at k
    exact ⟨_, rfl, a, _, dx, _, _, rfl, h1, En.cls_Program E, En.noat_Program_rows E, rfl, rp, us, rfl, .inr h3, k⟩

/-! ### Program.__repr__ -/
def sp_Program___repr__ (K : PySem.W.Frag) : Sp := fun vs H Q _ => ∃ (a : Addr) (us : List V) (ls : List Lin), vs = [.ref a] ∧ ProgAt K H a us ls ∧ Q (.str ((("Program(" : Str) ++ toString ((ls.length : Nat) : Int)) ++ " lines)")) H
theorem emp_app (a : Str) : Str.empty ++ a = a := by
  cases a with
  | mk c =>
    show (⟨#[] ++ c⟩ : Str) = ⟨c⟩
    rw [Array.empty_append]
theorem num_le {n : Nat} (h : n ≤ 1000) : (Str.ofString (toString ((n : Nat) : Int))).length ≤ 100 := by
  have e := PySem.int_text_length_le10 (a := ((n : Nat) : Int)) (k := 4) (by decide) (by rw [Int.natAbs_natCast]; omega)
  rw [PySem.ofString_length]
  omega

theorem sc_Program___repr__ : FnScope ["self"] ["self"] (defScope s_Program___repr__) := ⟨rfl, rfl, rfl, by decide +kernel, rfl, by decide +kernel, by decide +kernel⟩
theorem ok_Program___repr__ (E : En K mg) : GoodM P w K mg base CX0 1 (He.ma K (He.ga K "Program") "__repr__") ["self"] (sp_Program___repr__ K) := by
  obtain ⟨fd, F⟩ := E.says.def_ 1 (d := d_Program___repr__) rfl
  refine ⟨fd, ?_, F.bindsN fun _ _ _ _ _ _ us hl => match us, hl with | [_], _ => rfl⟩
  refine F.ok sc_Program___repr__ (fun vs H Q E' h => ?_) (fun cdv A outer s H vs Q E' hr h => ?_)
  · obtain ⟨a, us, ls, rfl, _⟩ := h; rfl
  · have hu64 := hu64_of hr
    refine ⟨_, PSs.nox (pss_one (ps_ret (pe_joined (.cons pe_str (.cons (pe_fmt (pe_callB call_len_seq (by rfl) (E.fr "len") (by decide +kernel) (pa_cons (pe_fld (pv 0) (by rfl)) pa_nil))) (.cons pe_str .nil)))))), ?_⟩
    obtain ⟨a, us, ls, rfl, hP, k⟩ := h
    obtain ⟨dx, rp, h1, h2, h3⟩ := hP.ex
    have l60 := hP.l1
    have b1 : (Str.ofString (toString ((ls.length : Nat) : Int))).length ≤ 100 := num_le (by omega)
    have z : 1000 ≤ sizeLine := by decide
    have c1 : (Str.ofString "Program(").length = 8 := by decide +kernel
    have c2 : (Str.ofString " lines)").length = 7 := by decide +kernel
    have lg : ∀ n : Nat, n ≤ 1000 → ((n : Nat) : Int).natAbs.log2 < 1920 := fun n h => by
      rw [Int.natAbs_natCast]
      exact Nat.lt_of_le_of_lt (Nat.log2_le_self n) (by omega)
    rw [← hP.len] at k b1 l60
    refine ⟨_, rfl, ?_, ?_⟩
    · rw [emp_app, c1]; omega
    rw [emp_app]
    refine ⟨_, rfl, a, _, dx, _, _, rfl, h1, En.cls_Program E, En.noat_Program_rows E, rfl, rp, us, rfl, .inr h3, .inr ⟨_, rfl, lg _ (by omega), _, rfl, ?_, _, rfl, ?_, k⟩⟩
    · rw [Str.length_append]; omega
    · rw [Str.length_append, Str.length_append]; omega

/-! ### Program.outcomes -/
theorem old_noneO {H H1 : Hp} {q : Addr} (e : Same H H1) (z : H1 q = none) : H q = none := by
  cases w : H q with
  | none => rfl
  | some o =>
    have := (e _ _ w).symm.trans z
    cases this
/-- a new list of the names, sorted -/
def sp_Program_outcomes (K : PySem.W.Frag) : Sp := fun vs H Q _ => ∃ (a : Addr) (us : List V) (ls : List Lin), vs = [.ref a] ∧ ProgAt K H a us ls ∧ ∀ (ys : List Str) (q : Addr) (H' : Hp), OutsOf ls ys → Same H H' → H q = none → H' q = some (.lst (ys.map V.str)) → Q (.ref q) H'

theorem sc_Program_outcomes : FnScope ["self", "line"] ["self"] (defScope s_Program_outcomes) := ⟨rfl, rfl, rfl, by decide +kernel, rfl, by decide +kernel, by decide +kernel⟩
theorem ok_Program_outcomes (E : En K mg) : GoodM P w K mg base CX0 1 (He.ma K (He.ga K "Program") "outcomes") ["self"] (sp_Program_outcomes K) := by
  obtain ⟨fd, F⟩ := E.says.def_ 2 (d := d_Program_outcomes) rfl
  refine ⟨fd, ?_, F.bindsN fun _ _ _ _ _ _ us hl => match us, hl with | [_], _ => rfl⟩
  refine F.ok sc_Program_outcomes (fun vs H Q E' h => ?_) (fun cdv A outer s H vs Q E' hr h => ?_)
  · obtain ⟨a, us, ls, rfl, _⟩ := h; rfl
  · have hu64 := hu64_of hr
    refine ⟨_, PSs.nox (pss_one (ps_ret (TxS.pe_sortedSet rfl (by rfl) (E.fr "sorted") (by rfl) (E.fr "set") (pe_op op_cat (pe_lst (pa_cons pe_str (pa_cons pe_str pa_nil))) (pe_lc (own := [("line", 1)]) (by rfl) sc_Program_outcomes.nd (pi_tup (pe_fld (pv 0) (by rfl))) (blkOk_by (N := ["self", "line"]) (sc := defScope s_Program_outcomes) (by decide +kernel)) (by exact fun _ _ _ _ _ => (pg_name (i := 1) sc_Program_outcomes.nd rfl (by first | exact Or.inl rfl | exact Or.inr rfl))) (by exact fun _ _ _ _ _ => (pts_one (pt_cmpR op_eq (pe_ix (show IxR _ (rIxT K) from ix_tup) (pv 1) pe_int (fun _ _ => rfl)) pe_str (nomark _)))) (by exact fun _ _ _ _ _ => (pe_ix (show IxR _ (rIxT K) from ix_tup) (pv 1) pe_int (fun _ _ => rfl)))))))), ?_⟩
    obtain ⟨a, us, ls, rfl, hP, k⟩ := h
    obtain ⟨dx, rp, h1, h2, h3⟩ := hP.ex
    have hl := hP.len
    have l60 := hP.l1
    have z9 : (1000 : Nat) ≤ sizeLine := by decide
    refine ⟨(by show 2 ≤ sizeLine; decide), fun p0 hp0 => ?_⟩
    have e0 := same_new (o := .lst [V.str "below", .str "end"]) hp0
    refine ⟨_, rfl, a, _, dx, _, _, rfl, e0 _ _ h1, En.cls_Program E, En.noat_Program_rows E, rfl, rp, rfl, ⟨_, seqT e0 h3⟩, fun D hD0 => ?_⟩
    refine lc_tup (K := K) (a := rp) (xs := us) (fun i H' => Same (upd H p0 (.lst [V.str "below", .str "end"])) H' ∧ H' D = some (.lst ((stopsL (ls.take i)).map V.str))) ⟨same_new hD0, upd_same⟩ (fun i H' _ q => seqT (e0.trans q.1) h3) ?_ ?_
    · rintro i z H2 hz ⟨e, hD⟩
      obtain ⟨l, hx, hv⟩ := lin_at hP.dp hz
      obtain ⟨b, ws, rfl, hS, hB⟩ := Dp.lin (Dp.same (e0.trans e) hv)
      have es : stopsL (ls.take (i + 1)) = stopsL (ls.take i) ++ (stopZ l).toList := by
        unfold stopsL
        rw [List.take_add_one, hx, Option.toList_some, List.filterMap_append]
        congr 1
      refine ⟨rfl, _, rfl, b, _, _, _, rfl, rfl, hS, at_0 _ _, rfl, _, rfl, ?_⟩
      cases l with
      | stop z =>
        obtain ⟨u1, rfl, g1⟩ := DpAll.one' hB
        obtain rfl := Dp.strE g1
        refine ite_t (Lin.w_is (.stop z) 6) ⟨_, rfl, b, _, _, _, rfl, rfl, hS, at_1 _ _ _, _, hD, ?_, same_mut e hD0, ?_⟩
        · have := stops_len (ls.take i)
          rw [List.length_map]
          rw [List.length_take] at this
          omega
        · rw [upd_same, es, List.map_append]
          rfl
      | _ =>
        refine ite_f (Lin.w_is _ 6) ⟨e, ?_⟩
        rw [es]
        simp only [stopZ, Option.toList_none, List.append_nil]
        exact hD
    rintro H2 ⟨e, hD⟩
    rw [hl, List.take_length] at hD
    have sl := stops_len ls
    refine ⟨p0, D, _, _, rfl, rfl, e _ _ upd_same, hD, Bx.sz (by rw [List.length_map]; show 2 + (stopsL ls).length ≤ _; omega), fun q0 hq0 => ?_⟩
    have e1 := same_new (o := .lst ([V.str "below", .str "end"] ++ (stopsL ls).map V.str)) hq0
    refine ⟨q0, "below" :: "end" :: stopsL ls, rfl, SqL.of upd_same, by show (stopsL ls).length + 2 ≤ 1000; omega, fun ys q nd mem so hq => ?_⟩
    have ee := (e0.trans (e.trans e1)).trans (same_new (o := .lst (ys.map V.str)) hq)
    refine k ys q _ ⟨nd, fun z => ?_, so⟩ ee ?_ upd_same
    · rw [mem z, List.mem_cons, List.mem_cons]
    · exact old_noneO (e0.trans (e.trans e1)) hq

/-! ### is_name -/
/-- a good name -/
def sp_is_name (K : PySem.W.Frag) : Sp := fun vs H Q _ => ∃ z : Str, vs = [.str z] ∧ nameB z = true ∧ ∀ H', Same H H' → Q (.bl true) H'
theorem low_in : ∀ c : Nat, lowB c = true → c ∈ ("abcdefghijklmnopqrstuvwxyz" : Str).cps.toList := fun c h => by
  unfold lowB at h
  rw [Bool.and_eq_true] at h
  have h1 := of_decide_eq_true h.1
  have h2 := of_decide_eq_true h.2
  have all : ∀ i, i < 26 → (97 + i) ∈ ("abcdefghijklmnopqrstuvwxyz" : Str).cps.toList := by
    have : ∀ i ∈ List.range 26, (97 + i) ∈ ("abcdefghijklmnopqrstuvwxyz" : Str).cps.toList := by decide +kernel
    exact fun i hi => this i (List.mem_range.mpr hi)
  have := all (c - 97) (by omega)
  rw [show 97 + (c - 97) = c by omega] at this
  exact this

theorem sc_is_name : FnScope ["value", "sign"] ["value"] (defScope s_is_name) := ⟨rfl, rfl, rfl, by decide +kernel, rfl, by decide +kernel, by decide +kernel⟩
theorem ok_is_name (E : En K mg) : Good P w K mg base CX0 1 "is_name" ["value"] (sp_is_name K) := by
  obtain ⟨fd, F⟩ := E.says.def_ 3 (d := d_is_name) rfl
  refine ⟨fd, ?_, F.bindsN fun _ _ _ _ _ _ us hl => match us, hl with | [_], _ => rfl, F.kp, E.gl "is_name"⟩
  refine F.ok sc_is_name (fun vs H Q E' h => ?_) (fun cdv A outer s H vs Q E' hr h => ?_)
  · obtain ⟨z, rfl, _⟩ := h; rfl
  · have hu64 := hu64_of hr
    refine ⟨_, PSs.nox (pss_cons (ps_if (PW.pt (pw_or (pt_not (pt_val (pe_callB call_isi (by rfl) (E.fr "isinstance") (by decide +kernel) (pa_cons (pv 0) (pa_cons (pe_bltn (v := .ty "str") (by rfl) (E.fr "str") (by decide +kernel) rfl) pa_nil))))) (pw_or1 (pt_not (pt_chain op_le op_le pe_int (pe_callB call_len_str (by rfl) (E.fr "len") (by decide +kernel) (pa_cons (pv 0) pa_nil)) (pe_globI rfl (En.int_MOST_NAME E)))))))
        (pss_one (ps_ret pe_bl))
        pss_nil)
      (pss_one (ps_ret (pe_callB (cr_all rfl) (by rfl) (E.fr "all") (by decide +kernel) (pa_cons (pe_lc (own := [("sign", 1)]) (by rfl) sc_is_name.nd (pi_str (pv 0)) (blkOk_by (N := ["value", "sign"]) (sc := defScope s_is_name) (by decide +kernel)) (by exact fun _ _ _ _ _ => (pg_name (i := 1) sc_is_name.nd rfl (by first | exact Or.inl rfl | exact Or.inr rfl))) (by exact fun _ _ _ _ _ => pts_nil) (by exact fun _ _ _ _ _ => (pe_cmpR op_in_sign (pv 1) pe_str (by rfl)))) pa_nil))))), ?_⟩
    obtain ⟨z, rfl, hz, k⟩ := h
    unfold nameB at hz
    rw [Bool.and_eq_true, Bool.and_eq_true] at hz
    obtain ⟨⟨h1, h2⟩, h3⟩ := hz
    have h1 := of_decide_eq_true h1
    have h2 := of_decide_eq_true h2
    refine ⟨_, rfl, _, _, _, _, true, rfl, .ty _, .base (.str z), kit_ty (by decide +kernel), _, rfl, ?_⟩
    have hzl : z.length ≤ sizeLine := Bx.sz (by omega)
    refine ite_f rfl ⟨_, rfl, _, rfl, hzl, _, _, rfl, rfl, _, rfl, ite_t (decide_eq_true (by omega)) ⟨_, _, rfl, rfl, _, rfl, ?_⟩⟩
    refine ite_f (by rw [decide_eq_true (by omega : (z.length : Int) ≤ 8)]; rfl) ?_
    refine ⟨_, rfl, _, rfl, fun D hD => ?_⟩
    have zs : z.cps.size = z.length := rfl
    refine lc_it (n := z.cps.size) walk_str (fun i H' => Same H H' ∧ H' D = some (.lst ((List.replicate i true).map V.bl))) ⟨same_new hD, upd_same⟩ (fun _ _ _ _ => trivial) ?_ ?_
    · rintro i x H1 H2 hi ⟨e1, hL⟩ ⟨rfl, c, hc, rfl⟩
      refine ⟨rfl, _, rfl, _, _, rfl, rfl, _, hL, ?_, same_mut e1 hD, ?_⟩
      · rw [List.length_map, List.length_replicate]
        exact szl (by omega)
      · have hm : c ∈ z.cps.toList := by
          have := Array.mem_of_getElem? hc
          exact Array.mem_toList_iff.mpr this
        have hlow := List.all_eq_true.mp h3 c hm
        rw [upd_same, List.replicate_succ', List.map_append, decide_eq_true (low_in c hlow)]
        rfl
    rintro H1 ⟨e1, hL⟩
    refine ⟨D, _, rfl, SqL.of hL, ?_⟩
    rw [show (List.replicate z.cps.size true).all id = true by simp]
    exact k H1 e1

/-! ### is_number -/
/-- by the value's type alone -/
def sp_is_number (K : PySem.W.Frag) : Sp := fun vs H Q _ => ∃ (v : V) (t : String) (b1 b2 : Bool), vs = [v] ∧ TyX K H v (.type t) ∧ kitB t "int" = some b1 ∧ kitB t "bool" = some b2 ∧ Q (.bl (b1 && !b2)) H
theorem sp_number_int {K : PySem.W.Frag} {H : Hp} {Q : VK} {E : XK} {i : Int} (q : Q (.bl true) H) : sp_is_number K [.int i] H Q E := ⟨_, "int", true, false, rfl, .base (.int i), by decide +kernel, by decide +kernel, q⟩

theorem sc_is_number : FnScope ["value"] ["value"] (defScope s_is_number) := ⟨rfl, rfl, rfl, by decide +kernel, rfl, by decide +kernel, by decide +kernel⟩
theorem ok_is_number (E : En K mg) : Good P w K mg base CX0 1 "is_number" ["value"] (sp_is_number K) := by
  obtain ⟨fd, F⟩ := E.says.def_ 4 (d := d_is_number) rfl
  refine ⟨fd, ?_, F.bindsN fun _ _ _ _ _ _ us hl => match us, hl with | [_], _ => rfl, F.kp, E.gl "is_number"⟩
  refine F.ok sc_is_number (fun vs H Q E' h => ?_) (fun cdv A outer s H vs Q E' hr h => ?_)
  · obtain ⟨v, t, b1, b2, rfl, _⟩ := h; rfl
  · have hu64 := hu64_of hr
    refine ⟨_, PSs.nox (pss_one (ps_ret (pe_and (pe_callB call_isi (by rfl) (E.fr "isinstance") (by decide +kernel) (pa_cons (pv 0) (pa_cons (pe_bltn (v := .ty "int") (by rfl) (E.fr "int") (by decide +kernel) rfl) pa_nil))) (pe_one (pe_not (pe_callB call_isi (by rfl) (E.fr "isinstance") (by decide +kernel) (pa_cons (pv 0) (pa_cons (pe_bltn (v := .ty "bool") (by rfl) (E.fr "bool") (by decide +kernel) rfl) pa_nil)))))))), ?_⟩
    obtain ⟨v, t, b1, b2, rfl, T, e1, e2, k⟩ := h
    refine ⟨_, rfl, _, _, _, _, _, rfl, .ty _, T, kit_ty e1, _, rfl, ?_⟩
    cases b1 with
    | false => exact ite_f rfl k
    | true => exact ite_t rfl ⟨_, rfl, _, _, _, _, _, rfl, .ty _, T, kit_ty e2, _, rfl, k⟩

/-! ### is_within -/
def sp_is_within (K : PySem.W.Frag) : Sp := fun vs H Q _ => ∃ (v : V) (d : PyData) (m : Int), vs = [v, .int m] ∧ Dp K H v d ∧ Q (.bl (withinD m d)) H

theorem sc_is_within : FnScope ["value", "most"] ["value", "most"] (defScope s_is_within) := ⟨rfl, rfl, rfl, by decide +kernel, rfl, by decide +kernel, by decide +kernel⟩
theorem ok_is_within (E : En K mg) (G_is_number : Good P w K mg base CX0 1 "is_number" ["value"] (sp_is_number K)) : Good P w K mg base CX0 2 "is_within" ["value", "most"] (sp_is_within K) := by
  obtain ⟨fd, F⟩ := E.says.def_ 5 (d := d_is_within) rfl
  refine ⟨fd, ?_, F.bindsN fun _ _ _ _ _ _ us hl => match us, hl with | [_, _], _ => rfl, F.kp, E.gl "is_within"⟩
  refine F.ok sc_is_within (fun vs H Q E' h => ?_) (fun cdv A outer s H vs Q E' hr h => ?_)
  · obtain ⟨v, d, m, rfl, _⟩ := h; rfl
  · have hu64 := hu64_of hr
    refine ⟨_, PSs.nox (pss_one (ps_ret (pe_and (pe_G G_is_number (hr.mono (by decide)) rfl pass0 (pa_cons (pv 0) pa_nil)) (pe_one (pe_chain op_le op_le pe_int (pv 0) (pv 1)))))), ?_⟩
    obtain ⟨v, d, m, rfl, hD, k⟩ := h
    refine ⟨_, rfl, _, _, _, _, rfl, Dp.tyx hD, kit_int d, kit_bool d, _, rfl, ?_⟩
    cases hi : isIntD d with
    | false =>
      have e : ((false || isBoolD d) && !isBoolD d) = false := by cases isBoolD d <;> rfl
      rw [show withinD m d = false by cases d <;> first | rfl | cases hi] at k
      exact ite_f e k
    | true =>
      obtain ⟨i, rfl, rfl⟩ := isInt_of hD hi
      refine ite_t rfl ⟨_, rfl, _, _, rfl, rfl, _, rfl, ?_⟩
      by_cases h0 : 0 ≤ i
      · refine ite_t (decide_eq_true h0) ⟨_, rfl, _, _, rfl, rfl, ?_⟩
        rw [show withinD m (.int i) = decide (i ≤ m) by unfold withinD; dsimp only; rw [decide_eq_true h0]; rfl] at k
        exact k
      · rw [show withinD m (.int i) = false by unfold withinD; dsimp only; rw [decide_eq_false h0]; rfl] at k
        exact ite_f (decide_eq_false h0) k

/-! ### is_one_of -/
def sp_is_one_of (K : PySem.W.Frag) : Sp := fun vs H Q _ => ∃ (v : V) (a : Addr) (d : PyData) (ts : List Str), vs = [v, .ref a] ∧ Dp K H v d ∧ SqT K H a (ts.map V.str) ∧ Q (.bl (inS ts d)) H
theorem flat_strs : ∀ ts : List Str, (ts.map V.str).all flatV = true
  | [] => rfl
  | _ :: ts => by
    rw [List.map_cons, List.all_cons, flat_strs ts]
    rfl

theorem sc_is_one_of : FnScope ["value", "texts"] ["value", "texts"] (defScope s_is_one_of) := ⟨rfl, rfl, rfl, by decide +kernel, rfl, by decide +kernel, by decide +kernel⟩
theorem ok_is_one_of (E : En K mg) : Good P w K mg base CX0 1 "is_one_of" ["value", "texts"] (sp_is_one_of K) := by
  obtain ⟨fd, F⟩ := E.says.def_ 6 (d := d_is_one_of) rfl
  refine ⟨fd, ?_, F.bindsN fun _ _ _ _ _ _ us hl => match us, hl with | [_, _], _ => rfl, F.kp, E.gl "is_one_of"⟩
  refine F.ok sc_is_one_of (fun vs H Q E' h => ?_) (fun cdv A outer s H vs Q E' hr h => ?_)
  · obtain ⟨v, a, d, ts, rfl, _⟩ := h; rfl
  · have hu64 := hu64_of hr
    refine ⟨_, PSs.nox (pss_one (ps_ret (pe_and (pe_callB call_isi (by rfl) (E.fr "isinstance") (by decide +kernel) (pa_cons (pv 0) (pa_cons (pe_bltn (v := .ty "str") (by rfl) (E.fr "str") (by decide +kernel) rfl) pa_nil))) (pe_one (pe_cmpR op_in_seq (pv 0) (pv 1) (by rfl)))))), ?_⟩
    obtain ⟨v, a, d, ts, rfl, hD, hS, k⟩ := h
    refine ⟨_, rfl, _, _, _, _, _, rfl, .ty _, Dp.tyx hD, kit_ty (kit_str d), _, rfl, ?_⟩
    cases ht : isStrD d with
    | false =>
      rw [show inS ts d = false by cases d <;> first | rfl | cases ht] at k
      exact ite_f rfl k
    | true =>
      obtain ⟨z, rfl, rfl⟩ := isStr_of hD ht
      refine ite_t rfl ⟨_, rfl, _, rfl, _, _, rfl, .inr hS, rfl, flat_strs ts, ?_⟩
      rw [← inS_of hD rfl ts] at k
      exact k

/-! ### is_test -/
/-- a good test -/
def sp_is_test (K : PySem.W.Frag) : Sp := fun vs H Q _ => ∃ (v : V) (t : Tst), vs = [v] ∧ Dp K H v t.d ∧ t.Ok ∧ ∀ H', Same H H' → Q (.bl true) H'
theorem inS_axes (ax : Bool) : inS ["x", "y"] (.str (axS ax)) = true := by cases ax <;> decide +kernel
theorem inS_vars (v : V3) : inS ["a", "b", "c"] (.str v.s) = true := by cases v <;> decide +kernel
theorem inV_ords (o : O3) : inV (V.str o.s) [V.str "less", V.str "equal", V.str "more"] = true := by cases o <;> decide +kernel
theorem li1_0 (a : V) : atI [a] 0 = some a := rfl
theorem li2_0 (a b : V) : atI [a, b] 0 = some a := rfl
theorem li2_1 (a b : V) : atI [a, b] 1 = some b := rfl
theorem li3_0 (a b c : V) : atI [a, b, c] 0 = some a := rfl
theorem li3_1 (a b c : V) : atI [a, b, c] 1 = some b := rfl
theorem li3_2 (a b c : V) : atI [a, b, c] 2 = some c := rfl

theorem sc_is_test : FnScope ["value", "word", "rest"] ["value"] (defScope s_is_test) := ⟨rfl, rfl, rfl, by decide +kernel, rfl, by decide +kernel, by decide +kernel⟩
theorem ok_is_test (E : En K mg) (G_is_within : Good P w K mg base CX0 2 "is_within" ["value", "most"] (sp_is_within K)) (G_is_one_of : Good P w K mg base CX0 1 "is_one_of" ["value", "texts"] (sp_is_one_of K)) (G_is_number : Good P w K mg base CX0 1 "is_number" ["value"] (sp_is_number K)) : Good P w K mg base CX0 3 "is_test" ["value"] (sp_is_test K) := by
  obtain ⟨fd, F⟩ := E.says.def_ 7 (d := d_is_test) rfl
  refine ⟨fd, ?_, F.bindsN fun _ _ _ _ _ _ us hl => match us, hl with | [_], _ => rfl, F.kp, E.gl "is_test"⟩
  refine F.ok sc_is_test (fun vs H Q E' h => ?_) (fun cdv A outer s H vs Q E' hr h => ?_)
  · obtain ⟨v, t, rfl, _⟩ := h; rfl
  · have hu64 := hu64_of hr
    refine ⟨_, PSs.nox (pss_cons (ps_if (PW.pt (pw_or (pt_not (pt_val (pe_callB call_isi (by rfl) (E.fr "isinstance") (by decide +kernel) (pa_cons (pv 0) (pa_cons (pe_bltn (v := .ty "tuple") (by rfl) (E.fr "tuple") (by decide +kernel) rfl) pa_nil))))) (pw_or (pt_cmpR op_eq (pe_callB call_len_seq (by rfl) (E.fr "len") (by decide +kernel) (pa_cons (pv 0) pa_nil)) pe_int (nomark _)) (pw_or1 (pt_not (pt_val (pe_callB call_isi (by rfl) (E.fr "isinstance") (by decide +kernel) (pa_cons (pe_ix ix_tup (pv 0) pe_int (fun _ _ => rfl)) (pa_cons (pe_bltn (v := .ty "str") (by rfl) (E.fr "str") (by decide +kernel) rfl) pa_nil)))))))))
        (pss_one (ps_ret pe_bl))
        pss_nil)
      (pss_cons (ps_asg (pv 0) (pg_star rfl (pgs_cons (pg_name (i := 1) sc_is_test.nd rfl (by first | exact Or.inl rfl | exact Or.inr rfl)) (pgs_cons (pg_name (i := 2) sc_is_test.nd rfl (by first | exact Or.inl rfl | exact Or.inr rfl)) pgs_nil))))
      (pss_cons (ps_if (pt_cmpR op_eq (pv 1) pe_str (nomark _))
        (pss_one (ps_ret (pe_and (pe_cmpR op_eq (pe_callB call_len_seq (by rfl) (E.fr "len") (by decide +kernel) (pa_cons (pv 2) pa_nil)) pe_int (nomark _)) (pe_one (pe_G G_is_one_of (hr.mono (by decide)) rfl pass0 (pa_cons (pe_ix ix_list (pv 2) pe_int (fun _ _ => rfl)) (pa_cons (pe_glob rfl (E.gl "AXES") (show RelV (V.ref (He.ga K "AXES")) _ from rfl)) pa_nil)))))))
        pss_nil)
      (pss_cons (ps_if (pt_cmpR op_eq (pv 1) pe_str (nomark _))
        (pss_cons (ps_if (PW.pt (pw_or (pt_cmpR op_ne (pe_callB call_len_seq (by rfl) (E.fr "len") (by decide +kernel) (pa_cons (pv 2) pa_nil)) pe_int (nomark _)) (pw_or (pt_not (pt_val (pe_G G_is_one_of (hr.mono (by decide)) rfl pass0 (pa_cons (pe_ix ix_list (pv 2) pe_int (fun _ _ => rfl)) (pa_cons (pe_glob rfl (E.gl "AXES") (show RelV (V.ref (He.ga K "AXES")) _ from rfl)) pa_nil))))) (pw_or1 (pt_not (pt_val (pe_G G_is_number (hr.mono (by decide)) rfl pass0 (pa_cons (pe_ix ix_list (pv 2) pe_int (fun _ _ => rfl)) pa_nil))))))))
        (pss_one (ps_ret pe_bl))
        pss_nil)
      (pss_one (ps_ret (pe_and (pe_cmpR op_in_seq (pe_ix ix_list (pv 2) pe_int (fun _ _ => rfl)) (pe_glob rfl (E.gl "MODULI") (show RelV (V.ref (He.ga K "MODULI")) _ from rfl)) (by rfl)) (pe_one (pe_G G_is_within (hr.mono (by decide)) rfl pass0 (pa_cons (pe_ix ix_list (pv 2) pe_int (fun _ _ => rfl)) (pa_cons (pe_op op_sub (pe_ix ix_list (pv 2) pe_int (fun _ _ => rfl)) pe_int) pa_nil))))))))
        pss_nil)
      (pss_cons (ps_if (pt_cmpR op_eq (pv 1) pe_str (nomark _))
        (pss_one (ps_ret (pe_and (pe_cmpR op_eq (pe_callB call_len_seq (by rfl) (E.fr "len") (by decide +kernel) (pa_cons (pv 2) pa_nil)) pe_int (nomark _)) (pe_and (pe_G G_is_one_of (hr.mono (by decide)) rfl pass0 (pa_cons (pe_ix ix_list (pv 2) pe_int (fun _ _ => rfl)) (pa_cons (pe_glob rfl (E.gl "VARIABLES") (show RelV (V.ref (He.ga K "VARIABLES")) _ from rfl)) pa_nil))) (pe_one (pe_G G_is_within (hr.mono (by decide)) rfl pass0 (pa_cons (pe_ix ix_list (pv 2) pe_int (fun _ _ => rfl)) (pa_cons (pe_globI rfl (En.int_MOST_VALUE E)) pa_nil))))))))
        pss_nil)
      (pss_one (ps_ret (pe_and (pe_cmpR op_in_seq (pv 1) (pe_glob rfl (E.gl "ORDERS") (show RelV (V.ref (He.ga K "ORDERS")) _ from rfl)) (by rfl)) (pe_one (pe_cmpR (op_eqD hu64) (pv 2) (pe_lst pa_nil) (nomark _))))))))))), ?_⟩
    obtain ⟨v, t, rfl, hD, ht, k⟩ := h
    obtain ⟨a, us, rfl, hS, hA⟩ := Dp.tst hD
    have z0 : 0 ≤ sizeLine := by decide
    refine ⟨_, rfl, _, _, _, _, true, rfl, .ty _, tyT hS, kit_ty (by decide +kernel), _, rfl, ?_⟩
    refine ite_f rfl ⟨_, rfl, a, _, rfl, .inr hS, rfl, _, rfl, ?_⟩
    refine ite_f (dne (by show ((us.length + 1 : Nat) : Int) ≠ 0; omega)) ?_
    refine ⟨_, rfl, a, _, _, _, rfl, rfl, hS, at_0 _ _, _, _, _, _, true, rfl, .ty _, .base (.str _), kit_ty (by decide +kernel), _, rfl, ite_f rfl ?_⟩
    -- word, *rest = value
    refine ⟨_, rfl, a, .str t.w, us, rfl, hS, fun l hl => ?_⟩
    refine ⟨_, _, rfl, _, _, rfl, rfl, ?_⟩
    have e1 := same_new (o := .lst us) hl
    have hA1 := Dp.sameAll e1 hA
    have hL : SqL K (upd H l (.lst us)) l us := SqL.of upd_same
    generalize upd H l (.lst us) = H1 at *
    have fin := k H1 e1
    cases t with
    | zero ax =>
      obtain ⟨u, rfl, h1⟩ := DpAll.one' hA1
      refine ⟨_, rfl, rfl, _, rfl, ite_t (Tst.w_is (.zero ax) 3) ?_⟩
      refine ⟨_, rfl, l, _, rfl, .inl hL, rfl, _, rfl, ite_t (deq rfl) ⟨_, rfl, l, _, _, _, rfl, rfl, hL, li1_0 _, ?_⟩⟩
      refine ⟨_, _, _, ["x", "y"], rfl, h1, at_AXES E _, ?_⟩
      rw [inS_axes]
      exact fin
    | rest ax m r =>
      obtain ⟨u1, u2, u3, rfl, h1, h2, h3⟩ := DpAll.three' hA1
      obtain rfl := Dp.intE h2
      obtain rfl := Dp.intE h3
      have hm : m = 2 ∨ m = 3 := ht.1
      have hr3 : r < m := ht.2
      refine ⟨_, rfl, rfl, _, rfl, ite_f (Tst.w_is (.rest ax m r) 3) ⟨_, rfl, rfl, _, rfl, ite_t (Tst.w_is (.rest ax m r) 5) ?_⟩⟩
      refine ⟨_, rfl, l, _, rfl, .inl hL, rfl, _, rfl, ite_f (by rw [deq (by rfl)]; rfl) ⟨_, rfl, l, _, _, _, rfl, rfl, hL, li3_0 _ _ _, _, _, _, ["x", "y"], rfl, h1, at_AXES E _, _, rfl, ?_⟩⟩
      rw [inS_axes]
      refine ite_f rfl ⟨_, rfl, l, _, _, _, rfl, rfl, hL, li3_1 _ _ _, ?_⟩
      refine ⟨_, "int", true, false, rfl, .base (.int _), by decide +kernel, by decide +kernel, true, rfl, ite_f rfl ?_⟩
      refine ⟨_, rfl, l, _, _, _, rfl, rfl, hL, li3_1 _ _ _, _, _, rfl, .inr (at_MODULI E _), rfl, rfl, _, rfl, ?_⟩
      refine ite_t ?_ ?_
      · rcases hm with rfl | rfl
        · show inV (V.int 2) [V.int 2, V.int 3] = true
          decide +kernel
        · show inV (V.int 3) [V.int 2, V.int 3] = true
          decide +kernel
      refine ⟨_, rfl, l, _, _, _, rfl, rfl, hL, li3_2 _ _ _, _, rfl, l, _, _, _, rfl, rfl, hL, li3_1 _ _ _, _, _, rfl, rfl, _, _, _, rfl, .int _, ?_⟩
      rw [show withinD ((m : Int) - 1) (.int (r : Int)) = true by
        show (decide ((0 : Int) ≤ (r : Int)) && decide ((r : Int) ≤ (m : Int) - 1)) = true
        rw [decide_eq_true (by omega), decide_eq_true (by omega)]
        rfl]
      exact fin
    | holds v n =>
      obtain ⟨u1, u2, rfl, h1, h2⟩ := DpAll.two' hA1
      obtain rfl := Dp.intE h2
      have hn : n ≤ 3 := ht
      refine ⟨_, rfl, rfl, _, rfl, ite_f (Tst.w_is (.holds v n) 3) ⟨_, rfl, rfl, _, rfl, ite_f (Tst.w_is (.holds v n) 5) ⟨_, rfl, rfl, _, rfl, ite_t (Tst.w_is (.holds v n) 4) ?_⟩⟩⟩
      refine ⟨_, rfl, l, _, rfl, .inl hL, rfl, _, rfl, ite_t (deq rfl) ⟨_, rfl, l, _, _, _, rfl, rfl, hL, li2_0 _ _, ?_⟩⟩
      refine ⟨_, _, _, ["a", "b", "c"], rfl, h1, at_VARIABLES E _, _, rfl, ?_⟩
      rw [inS_vars]
      refine ite_t rfl ⟨_, rfl, l, _, _, _, rfl, rfl, hL, li2_1 _ _, _, _, _, rfl, .int _, ?_⟩
      rw [show withinD 3 (.int (n : Int)) = true by
        show (decide ((0 : Int) ≤ (n : Int)) && decide ((n : Int) ≤ 3)) = true
        rw [decide_eq_true (by omega), decide_eq_true (by omega)]
        rfl]
      exact fin
    | ord o =>
      cases hA1
      refine ⟨_, rfl, rfl, _, rfl, ite_f (by cases o <;> exact Tst.w_is _ 3) ⟨_, rfl, rfl, _, rfl, ite_f (by cases o <;> exact Tst.w_is _ 5) ⟨_, rfl, rfl, _, rfl, ite_f (by cases o <;> exact Tst.w_is _ 4) ?_⟩⟩⟩
      refine ⟨_, rfl, _, _, rfl, .inr (at_ORDERS E _), rfl, rfl, _, rfl, ?_⟩
      refine ite_t (by show inV (V.str o.s) [V.str "less", V.str "equal", V.str "more"] = true; exact inV_ords o) ?_
      refine ⟨_, rfl, z0, fun l2 hl2 => ?_⟩
      have e2 := same_new (o := .lst []) hl2
      refine ⟨.list [], .list [], .lst (Same.seq e2 hL) .nil, .lst (SqL.of upd_same) .nil, by rfl, by rfl, ?_⟩
      exact k _ (e1.trans e2)

/-! ### is_line -/
/-- a good line -/
def sp_is_line (K : PySem.W.Frag) : Sp := fun vs H Q _ => ∃ (v : V) (l : Lin) (n : Nat), vs = [v, .int (n : Int)] ∧ Dp K H v l.d ∧ l.Ok n ∧ ∀ H', Same H H' → Q (.bl true) H'
theorem within_nat {i n : Nat} (h : i ≤ n) : withinD (n : Int) (.int (i : Int)) = true := by
  show (decide ((0 : Int) ≤ (i : Int)) && decide ((i : Int) ≤ (n : Int))) = true
  rw [decide_eq_true (by omega), decide_eq_true (by omega)]
  rfl

theorem sc_is_line : FnScope ["value", "many", "word", "rest"] ["value", "many"] (defScope s_is_line) := ⟨rfl, rfl, rfl, by decide +kernel, rfl, by decide +kernel, by decide +kernel⟩
theorem ok_is_line (E : En K mg) (G_is_name : Good P w K mg base CX0 1 "is_name" ["value"] (sp_is_name K)) (G_is_within : Good P w K mg base CX0 2 "is_within" ["value", "most"] (sp_is_within K)) (G_is_test : Good P w K mg base CX0 3 "is_test" ["value"] (sp_is_test K)) (G_is_one_of : Good P w K mg base CX0 1 "is_one_of" ["value", "texts"] (sp_is_one_of K)) : Good P w K mg base CX0 4 "is_line" ["value", "many"] (sp_is_line K) := by
  obtain ⟨fd, F⟩ := E.says.def_ 8 (d := d_is_line) rfl
  refine ⟨fd, ?_, F.bindsN fun _ _ _ _ _ _ us hl => match us, hl with | [_, _], _ => rfl, F.kp, E.gl "is_line"⟩
  refine F.ok sc_is_line (fun vs H Q E' h => ?_) (fun cdv A outer s H vs Q E' hr h => ?_)
  · obtain ⟨v, l, n, rfl, _⟩ := h; rfl
  · have hu64 := hu64_of hr
    refine ⟨_, PSs.nox (pss_cons (ps_if (PW.pt (pw_or (pt_not (pt_val (pe_callB call_isi (by rfl) (E.fr "isinstance") (by decide +kernel) (pa_cons (pv 0) (pa_cons (pe_bltn (v := .ty "tuple") (by rfl) (E.fr "tuple") (by decide +kernel) rfl) pa_nil))))) (pw_or (pt_cmpR op_eq (pe_callB call_len_seq (by rfl) (E.fr "len") (by decide +kernel) (pa_cons (pv 0) pa_nil)) pe_int (nomark _)) (pw_or1 (pt_not (pt_val (pe_callB call_isi (by rfl) (E.fr "isinstance") (by decide +kernel) (pa_cons (pe_ix ix_tup (pv 0) pe_int (fun _ _ => rfl)) (pa_cons (pe_bltn (v := .ty "str") (by rfl) (E.fr "str") (by decide +kernel) rfl) pa_nil)))))))))
        (pss_one (ps_ret pe_bl))
        pss_nil)
      (pss_cons (ps_asg (pv 0) (pg_star rfl (pgs_cons (pg_name (i := 2) sc_is_line.nd rfl (by first | exact Or.inl rfl | exact Or.inr rfl)) (pgs_cons (pg_name (i := 3) sc_is_line.nd rfl (by first | exact Or.inl rfl | exact Or.inr rfl)) pgs_nil))))
      (pss_cons (ps_if (pt_cmpR op_in_seq (pv 2) (pe_tup (pa_cons pe_str (pa_cons pe_str pa_nil))) (by rfl))
        (pss_one (ps_ret (pe_and (pe_cmpR op_eq (pe_callB call_len_seq (by rfl) (E.fr "len") (by decide +kernel) (pa_cons (pv 3) pa_nil)) pe_int (nomark _)) (pe_one (pe_G G_is_one_of (hr.mono (by decide)) rfl pass0 (pa_cons (pe_ix ix_list (pv 3) pe_int (fun _ _ => rfl)) (pa_cons (pe_glob rfl (E.gl "AXES") (show RelV (V.ref (He.ga K "AXES")) _ from rfl)) pa_nil)))))))
        pss_nil)
      (pss_cons (ps_if (pt_cmpR op_eq (pv 2) pe_str (nomark _))
        (pss_one (ps_ret (pe_and (pe_cmpR op_eq (pe_callB call_len_seq (by rfl) (E.fr "len") (by decide +kernel) (pa_cons (pv 3) pa_nil)) pe_int (nomark _)) (pe_and (pe_G G_is_one_of (hr.mono (by decide)) rfl pass0 (pa_cons (pe_ix ix_list (pv 3) pe_int (fun _ _ => rfl)) (pa_cons (pe_glob rfl (E.gl "VARIABLES") (show RelV (V.ref (He.ga K "VARIABLES")) _ from rfl)) pa_nil))) (pe_one (pe_G G_is_within (hr.mono (by decide)) rfl pass0 (pa_cons (pe_ix ix_list (pv 3) pe_int (fun _ _ => rfl)) (pa_cons (pe_globI rfl (En.int_MOST_VALUE E)) pa_nil))))))))
        pss_nil)
      (pss_cons (ps_if (pt_cmpR op_eq (pv 2) pe_str (nomark _))
        (pss_one (ps_ret (pe_and (pe_cmpR op_eq (pe_callB call_len_seq (by rfl) (E.fr "len") (by decide +kernel) (pa_cons (pv 3) pa_nil)) pe_int (nomark _)) (pe_and (pe_G G_is_test (hr.mono (by decide)) rfl pass0 (pa_cons (pe_ix ix_list (pv 3) pe_int (fun _ _ => rfl)) pa_nil)) (pe_one (pe_G G_is_within (hr.mono (by decide)) rfl pass0 (pa_cons (pe_ix ix_list (pv 3) pe_int (fun _ _ => rfl)) (pa_cons (pv 1) pa_nil))))))))
        pss_nil)
      (pss_cons (ps_if (pt_cmpR op_in_seq (pv 2) (pe_tup (pa_cons pe_str (pa_cons pe_str pa_nil))) (by rfl))
        (pss_one (ps_ret (pe_and (pe_cmpR op_eq (pe_callB call_len_seq (by rfl) (E.fr "len") (by decide +kernel) (pa_cons (pv 3) pa_nil)) pe_int (nomark _)) (pe_one (pe_G G_is_within (hr.mono (by decide)) rfl pass0 (pa_cons (pe_ix ix_list (pv 3) pe_int (fun _ _ => rfl)) (pa_cons (pv 1) pa_nil)))))))
        pss_nil)
      (pss_one (ps_ret (pe_and (pe_cmpR op_eq (pv 2) pe_str (nomark _)) (pe_and (pe_cmpR op_eq (pe_callB call_len_seq (by rfl) (E.fr "len") (by decide +kernel) (pa_cons (pv 3) pa_nil)) pe_int (nomark _)) (pe_and (pe_G G_is_name (hr.mono (by decide)) rfl pass0 (pa_cons (pe_ix ix_list (pv 3) pe_int (fun _ _ => rfl)) pa_nil)) (pe_one (pe_cmpR op_ne (pe_ix ix_list (pv 3) pe_int (fun _ _ => rfl)) pe_str (nomark _)))))))))))))), ?_⟩
    obtain ⟨v, ln, n, rfl, hD, ht, k⟩ := h
    obtain ⟨a, us, rfl, hS, hA⟩ := Dp.lin hD
    have z2 : 2 ≤ sizeLine := by decide
    refine ⟨_, rfl, _, _, _, _, true, rfl, .ty _, tyT hS, kit_ty (by decide +kernel), _, rfl, ?_⟩
    refine ite_f rfl ⟨_, rfl, a, _, rfl, .inr hS, rfl, _, rfl, ?_⟩
    refine ite_f (dne (by show ((us.length + 1 : Nat) : Int) ≠ 0; omega)) ?_
    refine ⟨_, rfl, a, _, _, _, rfl, rfl, hS, at_0 _ _, _, _, _, _, true, rfl, .ty _, .base (.str _), kit_ty (by decide +kernel), _, rfl, ite_f rfl ?_⟩
    -- word, *rest = value
    refine ⟨_, rfl, a, .str ln.w, us, rfl, hS, fun l hl => ?_⟩
    refine ⟨_, _, rfl, _, _, rfl, rfl, ?_⟩
    have e1 := same_new (o := .lst us) hl
    have hA1 := Dp.sameAll e1 hA
    have hL : SqL K (upd H l (.lst us)) l us := SqL.of upd_same
    generalize upd H l (.lst us) = H1 at *
    -- if word in ("add", "take")
    refine ⟨_, rfl, z2, fun p1 hp1 => ⟨p1, _, rfl, .inr (SqT.of upd_same), rfl, rfl, _, rfl, ?_⟩⟩
    have f1 := same_new (o := .tup [V.str "add", .str "take"]) hp1
    rw [show inV (V.str ln.w) [V.str "add", V.str "take"] = decide (ln.wi = 0 ∨ ln.wi = 1) from ln.w_in2 0 1]
    have hA2 := Dp.sameAll f1 hA1
    have hL2 := Same.seq f1 hL
    have e2 := e1.trans f1
    generalize upd H1 p1 (.tup [V.str "add", .str "take"]) = H2 at *
    have ax : ∀ (ax : Bool), us.length = 1 → DpAll K H2 us [.str (axS ax)] → ∃ u, us = [u] ∧ Dp K H2 u (.str (axS ax)) := fun ax _ h => DpAll.one' h
    cases ln with
    | add w =>
      obtain ⟨u, rfl, h1⟩ := DpAll.one' hA2
      refine ite_t (by rfl) ⟨_, rfl, l, _, rfl, .inl hL2, rfl, _, rfl, ite_t (deq rfl) ⟨_, rfl, l, _, _, _, rfl, rfl, hL2, li1_0 _, ?_⟩⟩
      refine ⟨_, _, _, ["x", "y"], rfl, h1, at_AXES E _, ?_⟩
      rw [inS_axes]
      exact k _ e2
    | take w =>
      obtain ⟨u, rfl, h1⟩ := DpAll.one' hA2
      refine ite_t (by rfl) ⟨_, rfl, l, _, rfl, .inl hL2, rfl, _, rfl, ite_t (deq rfl) ⟨_, rfl, l, _, _, _, rfl, rfl, hL2, li1_0 _, ?_⟩⟩
      refine ⟨_, _, _, ["x", "y"], rfl, h1, at_AXES E _, ?_⟩
      rw [inS_axes]
      exact k _ e2
    | set v m =>
      obtain ⟨u1, u2, rfl, h1, h2⟩ := DpAll.two' hA2
      obtain rfl := Dp.intE h2
      have hm : m ≤ 3 := ht
      refine ite_f (by rfl) ⟨_, rfl, rfl, _, rfl, ite_t (Lin.w_is (.set v m) 2) ?_⟩
      refine ⟨_, rfl, l, _, rfl, .inl hL2, rfl, _, rfl, ite_t (deq rfl) ⟨_, rfl, l, _, _, _, rfl, rfl, hL2, li2_0 _ _, ?_⟩⟩
      refine ⟨_, _, _, ["a", "b", "c"], rfl, h1, at_VARIABLES E _, _, rfl, ?_⟩
      rw [inS_vars]
      refine ite_t rfl ⟨_, rfl, l, _, _, _, rfl, rfl, hL2, li2_1 _ _, _, _, (3 : Int), rfl, .int _, ?_⟩
      rw [show withinD (3 : Int) (.int (m : Int)) = true from within_nat hm]
      exact k _ e2
    | test t tg =>
      obtain ⟨u1, u2, rfl, h1, h2⟩ := DpAll.two' hA2
      obtain rfl := Dp.intE h2
      refine ite_f (by rfl) ⟨_, rfl, rfl, _, rfl, ite_f (Lin.w_is (.test t tg) 2) ⟨_, rfl, rfl, _, rfl, ite_t (Lin.w_is (.test t tg) 3) ?_⟩⟩
      refine ⟨_, rfl, l, _, rfl, .inl hL2, rfl, _, rfl, ite_t (deq rfl) ⟨_, rfl, l, _, _, _, rfl, rfl, hL2, li2_0 _ _, ?_⟩⟩
      refine ⟨_, t, rfl, h1, ht.1, fun H3 e3 => ⟨_, rfl, ?_⟩⟩
      refine ite_t rfl ⟨_, rfl, l, _, _, _, rfl, rfl, Same.seq e3 hL2, li2_1 _ _, _, rfl, _, _, (n : Int), rfl, .int _, ?_⟩
      rw [within_nat ht.2]
      exact k _ (e2.trans e3)
    | choose tg =>
      obtain ⟨u1, rfl, h1⟩ := DpAll.one' hA2
      obtain rfl := Dp.intE h1
      refine ite_f (by rfl) ⟨_, rfl, rfl, _, rfl, ite_f (Lin.w_is (.choose tg) 2) ⟨_, rfl, rfl, _, rfl, ite_f (Lin.w_is (.choose tg) 3) ?_⟩⟩
      refine ⟨_, rfl, z2, fun p2 hp2 => ⟨p2, _, rfl, .inr (SqT.of upd_same), rfl, rfl, _, rfl, ?_⟩⟩
      have f2 := same_new (o := .tup [V.str "choose", .str "go"]) hp2
      refine ite_t (Lin.w_in2 (.choose tg) 4 5) ?_
      refine ⟨_, rfl, l, _, rfl, .inl (Same.seq f2 hL2), rfl, _, rfl, ite_t (deq rfl) ⟨_, rfl, l, _, _, _, rfl, rfl, Same.seq f2 hL2, li1_0 _, _, rfl, _, _, (n : Int), rfl, .int _, ?_⟩⟩
      rw [within_nat ht]
      exact k _ (e2.trans f2)
    | go tg =>
      obtain ⟨u1, rfl, h1⟩ := DpAll.one' hA2
      obtain rfl := Dp.intE h1
      refine ite_f (by rfl) ⟨_, rfl, rfl, _, rfl, ite_f (Lin.w_is (.go tg) 2) ⟨_, rfl, rfl, _, rfl, ite_f (Lin.w_is (.go tg) 3) ?_⟩⟩
      refine ⟨_, rfl, z2, fun p2 hp2 => ⟨p2, _, rfl, .inr (SqT.of upd_same), rfl, rfl, _, rfl, ?_⟩⟩
      have f2 := same_new (o := .tup [V.str "choose", .str "go"]) hp2
      refine ite_t (Lin.w_in2 (.go tg) 4 5) ?_
      refine ⟨_, rfl, l, _, rfl, .inl (Same.seq f2 hL2), rfl, _, rfl, ite_t (deq rfl) ⟨_, rfl, l, _, _, _, rfl, rfl, Same.seq f2 hL2, li1_0 _, _, rfl, _, _, (n : Int), rfl, .int _, ?_⟩⟩
      rw [within_nat ht]
      exact k _ (e2.trans f2)
    | stop z =>
      obtain ⟨u1, rfl, h1⟩ := DpAll.one' hA2
      obtain rfl := Dp.strE h1
      refine ite_f (by rfl) ⟨_, rfl, rfl, _, rfl, ite_f (Lin.w_is (.stop z) 2) ⟨_, rfl, rfl, _, rfl, ite_f (Lin.w_is (.stop z) 3) ?_⟩⟩
      refine ⟨_, rfl, z2, fun p2 hp2 => ⟨p2, _, rfl, .inr (SqT.of upd_same), rfl, rfl, _, rfl, ?_⟩⟩
      have f2 := same_new (o := .tup [V.str "choose", .str "go"]) hp2
      have hL3 := Same.seq f2 hL2
      refine ite_f (Lin.w_in2 (.stop z) 4 5) ?_
      refine ⟨_, rfl, rfl, _, rfl, ite_t (Lin.w_is (.stop z) 6) ⟨_, rfl, l, _, rfl, .inl hL3, rfl, _, rfl, ite_t (deq rfl) ⟨_, rfl, l, _, _, _, rfl, rfl, hL3, li1_0 _, z, rfl, ht.1, fun H3 e3 => ⟨_, rfl, ?_⟩⟩⟩⟩
      refine ite_t rfl ⟨_, rfl, l, _, _, _, rfl, rfl, Same.seq e3 hL3, li1_0 _, rfl, ?_⟩
      have ne : decide (V.str z = V.str "end") = false := decide_eq_false fun q => ht.2 (V.str.inj q)
      rw [ne]
      exact k _ (e2.trans (f2.trans e3))

/-! ### Program.__init__ -/
def sp0_Program (K : PySem.W.Frag) : Sp := fun vs H Q _ => ∃ (a dx p : Addr) (us : List V) (ls : List Lin), vs = [.ref a, .ref p] ∧ H a = some (.ins (He.ga K "Program") dx []) ∧ SqT K H p us ∧ DpAll K H us (ls.map Lin.d) ∧ (∀ x ∈ ls, x.Ok ls.length) ∧ 0 < ls.length ∧ ls.length ≤ 60 ∧
  ∀ H', Same H H' → Q .non (upd H' a (.ins (He.ga K "Program") dx [("rows", .ref p)]))
/-- a program of good lines -/
def sp_Program___init__ (K : PySem.W.Frag) : Sp := fun vs H Q E => ∃ ws rest, vs = ws ++ rest ∧ ws.length = ["self"].length ∧ rest.length ≤ sizeLine ∧ ∀ p, H p = none → sp0_Program K (ws ++ [V.ref p]) (upd H p (.tup rest)) Q E
theorem prog_makeX {K : PySem.W.Frag} {H : Hp} {us : List V} {ls : List Lin} {Q : Hp → Prop} {E : XK} {x dx : Addr} (hA : DpAll K H us (ls.map Lin.d)) (hok : ∀ x ∈ ls, x.Ok ls.length) (h0 : 0 < ls.length) (h1 : ls.length ≤ 60) (hx : H x = none) (hdx : H dx = none) (hn : dx ≠ x) (k : ∀ H', Same H H' → ProgAt K H' x us ls → Q H') :
    sp_Program___init__ K (.ref x :: us) (upd (upd H dx (.own x)) x (.ins (He.ga K "Program") dx [])) (fun v H2 => v = .non ∧ Q H2) E := by
  have e1 : Same H (upd (upd H dx (.own x)) x (.ins (He.ga K "Program") dx [])) := (same_new hdx).trans (same_new (by rw [upd_ne hn.symm]; exact hx))
  have hul : us.length = ls.length := by
    have := DpAll.length hA
    rw [List.length_map] at this
    exact this
  refine ⟨[.ref x], us, rfl, rfl, Bx.sz (by omega), fun p hp => ⟨x, dx, p, us, ls, rfl, ?_, SqT.of upd_same, Dp.sameAll (e1.trans (same_new hp)) hA, hok, h0, h1, fun H' e => ⟨rfl, ?_⟩⟩⟩
  · rw [upd_ne (ne_of_none upd_same hp), upd_same]
  · have hp' : H' p = some (.tup us) := e _ _ upd_same
    have hx' : H' x = some (.ins (He.ga K "Program") dx []) := e _ _ (same_new hp _ _ upd_same)
    have hdx' : H' dx = some (.own x) := e _ _ (same_new hp _ _ (by rw [upd_ne hn, upd_same]))
    have e2 := e1.trans ((same_new (o := .tup us) hp).trans e)
    have e3 : Same H (upd H' x (.ins (He.ga K "Program") dx [("rows", .ref p)])) := same_mut e2 hx
    have npx : p ≠ x := fun z => by rw [z, hx'] at hp'; cases hp'
    exact k _ e3 ⟨⟨dx, p, upd_same, by rw [upd_ne hn]; exact hdx', SqT.of (by rw [upd_ne npx]; exact hp')⟩, Dp.sameAll e3 hA, hok, h0, h1⟩
theorem prog_make {K : PySem.W.Frag} {H : Hp} {us : List V} {ls : List Lin} {Q : VK} {E : XK} (hA : DpAll K H us (ls.map Lin.d)) (hok : ∀ x ∈ ls, x.Ok ls.length) (h0 : 0 < ls.length) (h1 : ls.length ≤ 60) (k : ∀ p H', Same H H' → ProgAt K H' p us ls → Q (.ref p) H') :
    ∀ x dx, H x = none → H dx = none → dx ≠ x → sp_Program___init__ K (.ref x :: us) (upd (upd H dx (.own x)) x (.ins (He.ga K "Program") dx [])) (fun v H2 => v = .non ∧ Q (.ref x) H2) E :=
  fun x _ hx hdx hn => prog_makeX hA hok h0 h1 hx hdx hn (k x)

theorem sc_Program___init__ : FnScope ["self", "lines", "index", "line"] ["self", "lines"] (defScope s_Program___init__) := ⟨rfl, rfl, rfl, by decide +kernel, rfl, by decide +kernel, by decide +kernel⟩
theorem ok_Program___init__ (E : En K mg) (G_is_line : Good P w K mg base CX0 4 "is_line" ["value", "many"] (sp_is_line K)) : FnR P w K mg base CX0 5 (He.ma K (He.ga K "Program") "__init__") (sp_Program___init__ K) := by
  obtain ⟨fd, F⟩ := E.says.def_ 9 (d := d_Program___init__) rfl
  obtain ⟨oc, od, dV, kV, doc, pm, an, cdv, ct, osl, rfl, lk, hcd, hD, hK⟩ := F.ex
  obtain rfl : dV = .none := by
    rcases hD with ⟨_, h⟩ | ⟨h, _⟩
    · exact h
    · exact absurd rfl h
  refine StX.fn_star (ps := ["self"]) (pv := "lines") lk hcd sc_Program___init__ StX.cxUp_none (StX.bind_star1 (B := fun vs => bindArgs _ { pos := vs }) (fun a => rfl) (fun a r rs => rfl)) (fun A outer s H vs Q E' hr h => ?_)
  · have hu64 := hu64_of hr
    refine ⟨_, PSs.nox (pss_cons (ps_for PassesOwn.never rfl (pi_enumT (by rfl) (E.fr "enumerate") (pa_cons (pv 1) pa_nil)) (pg_tup rfl (pgs_cons (pg_name (i := 2) sc_Program___init__.nd rfl (by first | exact Or.inl rfl | exact Or.inr rfl)) (pgs_cons (pg_name (i := 3) sc_Program___init__.nd rfl (by first | exact Or.inl rfl | exact Or.inr rfl)) pgs_nil)))
        (pss_one (ps_if (pt_not (pt_val (pe_G G_is_line (hr.mono (by decide)) rfl pass0 (pa_cons (pv 3) (pa_cons (pe_callB call_len_seq (by rfl) (E.fr "len") (by decide +kernel) (pa_cons (pv 1) pa_nil)) pa_nil)))))
        (pss_one ps_never)
        pss_nil)))
      (pss_cons (ps_if (pt_not (pt_chain op_le op_le pe_int (pe_callB call_len_seq (by rfl) (E.fr "len") (by decide +kernel) (pa_cons (pv 1) pa_nil)) (ClX.pe_cval (pe_glob rfl (E.gl "Program") (show RelV (V.ref (He.ga K "Program")) _ from rfl)))))
        (pss_one ps_never)
        pss_nil)
      (pss_one (ps_fld (pv 0) (pe_callTy call_tuple_of (by rfl) (E.fr "tuple") (by decide +kernel) (pa_cons (pv 1) pa_nil)) rfl)))), ?_⟩
    obtain ⟨a, dx, p, us, ls, rfl, hX, hP, hA, hok, h0, h1, k⟩ := h
    have hul : us.length = ls.length := by
      have := DpAll.length hA
      rw [List.length_map] at this
      exact this
    refine ⟨_, rfl, p, us, rfl, hP, ?_⟩
    refine for_it (n := us.length) (walk_enumT (K := K) (a := p) (xs := us)) (fun i σ H' => ∃ s2 s3 : Option V, σ = [some (.ref a), some (.ref p), s2, s3] ∧ Same H H') ⟨_, _, rfl, Same.refl _⟩ (fun i σ H' _ ⟨_, _, _, e⟩ => seqT e hP) ?_ ?_
    · rintro i x σ H1 H2 hi ⟨s2, s3, rfl, e1⟩ ⟨T, y, z, rfl, hT, rfl, hy, hz⟩
      cases hy
      obtain ⟨l, hl, hv⟩ := lin_at hA hz
      have e2 := same_new (o := .tup [V.int (i : Nat), z]) hT
      have e12 := e1.trans e2
      refine ⟨T, _, rfl, SqT.of upd_same, rfl, _, _, rfl, _, _, rfl, rfl, ?_⟩
      refine ⟨_, rfl, _, rfl, p, us, rfl, .inr (seqT e12 hP), z, l, us.length, rfl, Dp.same e12 hv, by rw [hul]; exact hok l (List.mem_of_getElem? hl), fun H3 e3 => ⟨_, rfl, ite_f rfl ?_⟩⟩
      exact ⟨_, _, rfl, e12.trans e3⟩
    rintro σ H1 ⟨s2, s3, rfl, e1⟩
    obtain ⟨t60, c60⟩ := En.cint_Program_MAX_LINES E
    refine ⟨_, rfl, p, us, rfl, .inr (seqT e1 hP), _, _, rfl, rfl, _, rfl, ite_t (decide_eq_true (by omega)) ⟨_, _, _, _, rfl, En.cread_Program E, c60, _, _, rfl, rfl, _, rfl, ?_⟩⟩
    refine ite_f (by rw [decide_eq_true (by omega : (us.length : Int) ≤ 60)]; rfl) ?_
    refine ⟨_, rfl, p, us, rfl, .inr ⟨seqT e1 hP, ?_⟩⟩
    exact ⟨_, rfl, a, _, dx, [], rfl, e1 _ _ hX, En.cls_Program E, En.noat_Program_rows E, (by show 0 < 1000; decide), k H1 e1⟩

/-! ### Program.__eq__n -/
def sp_Program___eq__n (K : PySem.W.Frag) : Sp := fun vs H Q _ => ∃ (a : Addr) (z : V), vs = [.ref a, z] ∧ OthV K H z ∧ Q (.bl false) H

theorem sc_Program___eq__n : FnScope ["self", "other"] ["self", "other"] (defScope s_Program___eq__n) := ⟨rfl, rfl, rfl, by decide +kernel, rfl, by decide +kernel, by decide +kernel⟩
theorem ok_Program___eq__n (E : En K mg) : GoodM P w K mg base CX0 1 (He.ma K (He.ga K "Program") "__eq__") ["self", "other"] (sp_Program___eq__n K) := by
  obtain ⟨fd, F⟩ := E.says.def_ 10 (d := d_Program___eq__n) rfl
  refine ⟨fd, ?_, F.bindsN fun _ _ _ _ _ _ us hl => match us, hl with | [_, _], _ => rfl⟩
  refine F.ok sc_Program___eq__n (fun vs H Q E' h => ?_) (fun cdv A outer s H vs Q E' hr h => ?_)
  · obtain ⟨a, z, rfl, _⟩ := h; rfl
  · have hu64 := hu64_of hr
    refine ⟨_, PSs.nox (pss_one (ps_ret (pe_and (pe_callB call_isi (by rfl) (E.fr "isinstance") (by decide +kernel) (pa_cons (pv 1) (pa_cons (pe_glob rfl (E.gl "Program") (show RelV (V.ref (He.ga K "Program")) _ from rfl)) pa_nil))) (pe_one (pe_cmpR (op_eqD hu64) (pe_fld (pv 0) (by rfl)) (pe_fld (pv 1) (by rfl)) (nomark _)))))), ?_⟩
    obtain ⟨a, z, rfl, hz, k⟩ := h
    have nk := En.nokin_Program E
    rcases hz with rfl | ⟨b, ys, rfl, hb⟩ | ⟨b, ys, rfl, hb⟩
    · exact ⟨_, rfl, _, _, _, _, false, rfl, .own _, .base .non, nk.k1, _, rfl, ite_f rfl k⟩
    · exact ⟨_, rfl, _, _, _, _, false, rfl, .own _, .base (.lst hb), nk.k2, _, rfl, ite_f rfl k⟩
    · exact ⟨_, rfl, _, _, _, _, false, rfl, .own _, tyT hb, nk.k3, _, rfl, ite_f rfl k⟩

/-! ### Program.__eq__ -/
def sp_Program___eq__ (K : PySem.W.Frag) : Sp := fun vs H Q _ => ∃ (a b : Addr) (u1 u2 : List V) (l1 l2 : List Lin), vs = [.ref a, .ref b] ∧ ProgAt K H a u1 l1 ∧ ProgAt K H b u2 l2 ∧ Q (.bl (PyData.eqv (.list (l1.map Lin.d)) (.list (l2.map Lin.d)))) H

theorem sc_Program___eq__ : FnScope ["self", "other"] ["self", "other"] (defScope s_Program___eq__) := ⟨rfl, rfl, rfl, by decide +kernel, rfl, by decide +kernel, by decide +kernel⟩
theorem ok_Program___eq__ (E : En K mg) : GoodM P w K mg base CX0 1 (He.ma K (He.ga K "Program") "__eq__") ["self", "other"] (sp_Program___eq__ K) := by
  obtain ⟨fd, F⟩ := E.says.def_ 11 (d := d_Program___eq__) rfl
  refine ⟨fd, ?_, F.bindsN fun _ _ _ _ _ _ us hl => match us, hl with | [_, _], _ => rfl⟩
  refine F.ok sc_Program___eq__ (fun vs H Q E' h => ?_) (fun cdv A outer s H vs Q E' hr h => ?_)
  · obtain ⟨a, b, u1, u2, l1, l2, rfl, _⟩ := h; rfl
  · have hu64 := hu64_of hr
    refine ⟨_, PSs.nox (pss_one (ps_ret (pe_and (pe_callB (C8.call_isC (En.ins_Program E)) (by rfl) (E.fr "isinstance") (by decide +kernel) (pa_cons (pv 1) (pa_cons (pe_glob rfl (E.gl "Program") (show RelV (V.ref (He.ga K "Program")) _ from rfl)) pa_nil))) (pe_one (pe_cmpR (op_eqD hu64) (pe_fld (pv 0) (by rfl)) (pe_fld (pv 1) (by rfl)) (nomark _)))))), ?_⟩
    obtain ⟨a, b, u1, u2, l1, l2, rfl, hA, hB, k⟩ := h
    obtain ⟨dx1, p1, g1, g2, g3⟩ := hA.ex
    obtain ⟨dx2, p2, f1, f2, f3⟩ := hB.ex
    refine ⟨_, rfl, b, dx2, _, rfl, f1, _, rfl, ite_t rfl ?_⟩
    refine ⟨_, rfl, a, _, dx1, _, _, rfl, g1, En.cls_Program E, En.noat_Program_rows E, rfl, _, rfl, b, _, dx2, _, _, rfl, f1, En.cls_Program E, En.noat_Program_rows E, rfl, ?_⟩
    exact ⟨.tuple (l1.map Lin.d), .tuple (l2.map Lin.d), .tup g3 hA.dp, .tup f3 hB.dp, lins_shpT l1 hA.ok, lins_shpT l2 hB.ok, k⟩

/-! ### _law_program -/
/-- the program of a list of lines -/
def sp__law_program (K : PySem.W.Frag) : Sp := fun vs H Q _ => ∃ (l : Addr) (us : List V) (ls : List Lin), vs = [.ref l] ∧ H l = some (.lst us) ∧ DpAll K H us (ls.map Lin.d) ∧ (∀ x ∈ ls, x.Ok ls.length) ∧ 0 < ls.length ∧ ls.length ≤ 8 ∧ ∀ p H', Same H H' → ProgAt K H' p us ls → Q (.ref p) H'

theorem sc__law_program : FnScope ["lines", "a"] ["lines"] (defScope s__law_program) := ⟨rfl, rfl, rfl, by decide +kernel, rfl, by decide +kernel, by decide +kernel⟩
theorem ok__law_program (E : En K mg) (G_Program___init__ : FnR P w K mg base CX0 5 (He.ma K (He.ga K "Program") "__init__") (sp_Program___init__ K)) : Good P w K mg base CX0 7 "_law_program" ["lines"] (sp__law_program K) := by
  obtain ⟨fd, F⟩ := E.says.def_ 12 (d := d__law_program) rfl
  refine ⟨fd, ?_, F.bindsN fun _ _ _ _ _ _ us hl => match us, hl with | [_], _ => rfl, F.kp, E.gl "_law_program"⟩
  refine F.ok sc__law_program (fun vs H Q E' h => ?_) (fun cdv A outer s H vs Q E' hr h => ?_)
  · obtain ⟨l, us, ls, rfl, _⟩ := h; rfl
  · have hu64 := hu64_of hr
    refine ⟨_, PSs.nox (pss_cons (ps_set (i := 1) sc__law_program.nd rfl (by first | exact Or.inl rfl | exact Or.inr rfl) (pe_op op_cat (pe_callTy call_list_of (by rfl) (E.fr "list") (by decide +kernel) (pa_cons (pv 0) pa_nil)) (pe_op op_rep (pe_lst (pa_cons pe_non pa_nil)) pe_int)))
      (pss_cons (ps_if (pt_cmpR op_eq (pe_callB call_len_seq (by rfl) (E.fr "len") (by decide +kernel) (pa_cons (pv 0) pa_nil)) pe_int (nomark _))
        (pss_one (ps_ret (StX.pe_makeR (En.mkr_Program E) G_Program___init__ (hr.mono (by decide)) rfl (E.gl "Program") pass0 (pa_cons (pe_ix ix_list (pv 1) pe_int (fun _ _ => rfl)) pa_nil))))
        pss_nil)
      (pss_cons (ps_if (pt_cmpR op_eq (pe_callB call_len_seq (by rfl) (E.fr "len") (by decide +kernel) (pa_cons (pv 0) pa_nil)) pe_int (nomark _))
        (pss_one (ps_ret (StX.pe_makeR (En.mkr_Program E) G_Program___init__ (hr.mono (by decide)) rfl (E.gl "Program") pass0 (pa_cons (pe_ix ix_list (pv 1) pe_int (fun _ _ => rfl)) (pa_cons (pe_ix ix_list (pv 1) pe_int (fun _ _ => rfl)) pa_nil)))))
        pss_nil)
      (pss_cons (ps_if (pt_cmpR op_eq (pe_callB call_len_seq (by rfl) (E.fr "len") (by decide +kernel) (pa_cons (pv 0) pa_nil)) pe_int (nomark _))
        (pss_one (ps_ret (StX.pe_makeR (En.mkr_Program E) G_Program___init__ (hr.mono (by decide)) rfl (E.gl "Program") pass0 (pa_cons (pe_ix ix_list (pv 1) pe_int (fun _ _ => rfl)) (pa_cons (pe_ix ix_list (pv 1) pe_int (fun _ _ => rfl)) (pa_cons (pe_ix ix_list (pv 1) pe_int (fun _ _ => rfl)) pa_nil))))))
        pss_nil)
      (pss_cons (ps_if (pt_cmpR op_eq (pe_callB call_len_seq (by rfl) (E.fr "len") (by decide +kernel) (pa_cons (pv 0) pa_nil)) pe_int (nomark _))
        (pss_one (ps_ret (StX.pe_makeR (En.mkr_Program E) G_Program___init__ (hr.mono (by decide)) rfl (E.gl "Program") pass0 (pa_cons (pe_ix ix_list (pv 1) pe_int (fun _ _ => rfl)) (pa_cons (pe_ix ix_list (pv 1) pe_int (fun _ _ => rfl)) (pa_cons (pe_ix ix_list (pv 1) pe_int (fun _ _ => rfl)) (pa_cons (pe_ix ix_list (pv 1) pe_int (fun _ _ => rfl)) pa_nil)))))))
        pss_nil)
      (pss_cons (ps_if (pt_cmpR op_eq (pe_callB call_len_seq (by rfl) (E.fr "len") (by decide +kernel) (pa_cons (pv 0) pa_nil)) pe_int (nomark _))
        (pss_one (ps_ret (StX.pe_makeR (En.mkr_Program E) G_Program___init__ (hr.mono (by decide)) rfl (E.gl "Program") pass0 (pa_cons (pe_ix ix_list (pv 1) pe_int (fun _ _ => rfl)) (pa_cons (pe_ix ix_list (pv 1) pe_int (fun _ _ => rfl)) (pa_cons (pe_ix ix_list (pv 1) pe_int (fun _ _ => rfl)) (pa_cons (pe_ix ix_list (pv 1) pe_int (fun _ _ => rfl)) (pa_cons (pe_ix ix_list (pv 1) pe_int (fun _ _ => rfl)) pa_nil))))))))
        pss_nil)
      (pss_cons (ps_if (pt_cmpR op_eq (pe_callB call_len_seq (by rfl) (E.fr "len") (by decide +kernel) (pa_cons (pv 0) pa_nil)) pe_int (nomark _))
        (pss_one (ps_ret (StX.pe_makeR (En.mkr_Program E) G_Program___init__ (hr.mono (by decide)) rfl (E.gl "Program") pass0 (pa_cons (pe_ix ix_list (pv 1) pe_int (fun _ _ => rfl)) (pa_cons (pe_ix ix_list (pv 1) pe_int (fun _ _ => rfl)) (pa_cons (pe_ix ix_list (pv 1) pe_int (fun _ _ => rfl)) (pa_cons (pe_ix ix_list (pv 1) pe_int (fun _ _ => rfl)) (pa_cons (pe_ix ix_list (pv 1) pe_int (fun _ _ => rfl)) (pa_cons (pe_ix ix_list (pv 1) pe_int (fun _ _ => rfl)) pa_nil)))))))))
        pss_nil)
      (pss_cons (ps_if (pt_cmpR op_eq (pe_callB call_len_seq (by rfl) (E.fr "len") (by decide +kernel) (pa_cons (pv 0) pa_nil)) pe_int (nomark _))
        (pss_one (ps_ret (StX.pe_makeR (En.mkr_Program E) G_Program___init__ (hr.mono (by decide)) rfl (E.gl "Program") pass0 (pa_cons (pe_ix ix_list (pv 1) pe_int (fun _ _ => rfl)) (pa_cons (pe_ix ix_list (pv 1) pe_int (fun _ _ => rfl)) (pa_cons (pe_ix ix_list (pv 1) pe_int (fun _ _ => rfl)) (pa_cons (pe_ix ix_list (pv 1) pe_int (fun _ _ => rfl)) (pa_cons (pe_ix ix_list (pv 1) pe_int (fun _ _ => rfl)) (pa_cons (pe_ix ix_list (pv 1) pe_int (fun _ _ => rfl)) (pa_cons (pe_ix ix_list (pv 1) pe_int (fun _ _ => rfl)) pa_nil))))))))))
        pss_nil)
      (pss_one (ps_ret (StX.pe_makeR (En.mkr_Program E) G_Program___init__ (hr.mono (by decide)) rfl (E.gl "Program") pass0 (pa_cons (pe_ix ix_list (pv 1) pe_int (fun _ _ => rfl)) (pa_cons (pe_ix ix_list (pv 1) pe_int (fun _ _ => rfl)) (pa_cons (pe_ix ix_list (pv 1) pe_int (fun _ _ => rfl)) (pa_cons (pe_ix ix_list (pv 1) pe_int (fun _ _ => rfl)) (pa_cons (pe_ix ix_list (pv 1) pe_int (fun _ _ => rfl)) (pa_cons (pe_ix ix_list (pv 1) pe_int (fun _ _ => rfl)) (pa_cons (pe_ix ix_list (pv 1) pe_int (fun _ _ => rfl)) (pa_cons (pe_ix ix_list (pv 1) pe_int (fun _ _ => rfl)) pa_nil))))))))))))))))))), ?_⟩
    obtain ⟨l, us, ls, rfl, hL, hA, hok, h0, h8, k⟩ := h
    have z1 : 1 ≤ sizeLine := by decide
    have hul : us.length = ls.length := by
      have := DpAll.length hA
      rw [List.length_map] at this
      exact this
    refine ⟨_, rfl, l, us, rfl, .inl (SqL.of hL), fun q1 hq1 => ?_⟩
    have e1 := same_new (o := .lst us) hq1
    refine ⟨z1, fun q2 hq2 => ?_⟩
    have e2 := same_new (o := .lst [V.non]) hq2
    refine ⟨q2, 8, [.non], rfl, rfl, upd_same, by decide, by decide, by decide, fun q3 hq3 => ?_⟩
    have e3 := same_new (o := .lst (List.replicate (8 : Int).toNat [V.non]).flatten) hq3
    refine ⟨q1, q3, us, _, rfl, rfl, (e2.trans e3) _ _ upd_same, upd_same, ?_, fun q4 hq4 => ?_⟩
    · exact Bx.sz (by show us.length + 8 ≤ _; omega)
    have e4 := same_new (o := .lst (us ++ (List.replicate (8 : Int).toNat [V.non]).flatten)) hq4
    have ee := e1.trans (e2.trans (e3.trans e4))
    have hL4 := ee _ _ hL
    have hA4 := Dp.sameAll ee hA
    have hq := upd_same (a := q4) (o := HO.lst (us ++ (List.replicate (8 : Int).toNat [V.non]).flatten)) (H := upd (upd (upd H q1 (.lst us)) q2 (.lst [V.non])) q3 (.lst (List.replicate (8 : Int).toNat [V.non]).flatten))
    generalize upd (upd (upd (upd H q1 _) q2 _) q3 _) q4 _ = H4 at *
    have mk := fun x dx (h1 : H4 x = none) (h2 : H4 dx = none) (h3 : dx ≠ x) => prog_make (E := E') hA4 hok h0 (by omega) (fun p H' e S => k p H' (ee.trans e) S) x dx h1 h2 h3
    match us, hul, hq, mk, hL4 with
    | [], hul, hq, mk, hL4 => exact absurd hul (by show ¬ 0 = ls.length; omega)
    | [v0], hul, hq, mk, hL4 =>
      refine ⟨_, rfl, l, _, rfl, .inl (SqL.of hL4), rfl, _, rfl, ite_t (deq (by show ((1 : Nat) : Int) = 1; decide)) ?_⟩
      exact ⟨_, rfl, q4, _, _, _, rfl, rfl, SqL.of hq, rfl, mk⟩
    | [v0, v1], hul, hq, mk, hL4 =>
      refine ⟨_, rfl, l, _, rfl, .inl (SqL.of hL4), rfl, _, rfl, ite_f (dne (by show ((2 : Nat) : Int) ≠ 1; decide)) ?_⟩
      refine ⟨_, rfl, l, _, rfl, .inl (SqL.of hL4), rfl, _, rfl, ite_t (deq (by show ((2 : Nat) : Int) = 2; decide)) ?_⟩
      exact ⟨_, rfl, q4, _, _, _, rfl, rfl, SqL.of hq, rfl, _, rfl, q4, _, _, _, rfl, rfl, SqL.of hq, rfl, mk⟩
    | [v0, v1, v2], hul, hq, mk, hL4 =>
      refine ⟨_, rfl, l, _, rfl, .inl (SqL.of hL4), rfl, _, rfl, ite_f (dne (by show ((3 : Nat) : Int) ≠ 1; decide)) ?_⟩
      refine ⟨_, rfl, l, _, rfl, .inl (SqL.of hL4), rfl, _, rfl, ite_f (dne (by show ((3 : Nat) : Int) ≠ 2; decide)) ?_⟩
      refine ⟨_, rfl, l, _, rfl, .inl (SqL.of hL4), rfl, _, rfl, ite_t (deq (by show ((3 : Nat) : Int) = 3; decide)) ?_⟩
      exact ⟨_, rfl, q4, _, _, _, rfl, rfl, SqL.of hq, rfl, _, rfl, q4, _, _, _, rfl, rfl, SqL.of hq, rfl, _, rfl, q4, _, _, _, rfl, rfl, SqL.of hq, rfl, mk⟩
    | [v0, v1, v2, v3], hul, hq, mk, hL4 =>
      refine ⟨_, rfl, l, _, rfl, .inl (SqL.of hL4), rfl, _, rfl, ite_f (dne (by show ((4 : Nat) : Int) ≠ 1; decide)) ?_⟩
      refine ⟨_, rfl, l, _, rfl, .inl (SqL.of hL4), rfl, _, rfl, ite_f (dne (by show ((4 : Nat) : Int) ≠ 2; decide)) ?_⟩
      refine ⟨_, rfl, l, _, rfl, .inl (SqL.of hL4), rfl, _, rfl, ite_f (dne (by show ((4 : Nat) : Int) ≠ 3; decide)) ?_⟩
      refine ⟨_, rfl, l, _, rfl, .inl (SqL.of hL4), rfl, _, rfl, ite_t (deq (by show ((4 : Nat) : Int) = 4; decide)) ?_⟩
      exact ⟨_, rfl, q4, _, _, _, rfl, rfl, SqL.of hq, rfl, _, rfl, q4, _, _, _, rfl, rfl, SqL.of hq, rfl, _, rfl, q4, _, _, _, rfl, rfl, SqL.of hq, rfl, _, rfl, q4, _, _, _, rfl, rfl, SqL.of hq, rfl, mk⟩
    | [v0, v1, v2, v3, v4], hul, hq, mk, hL4 =>
      refine ⟨_, rfl, l, _, rfl, .inl (SqL.of hL4), rfl, _, rfl, ite_f (dne (by show ((5 : Nat) : Int) ≠ 1; decide)) ?_⟩
      refine ⟨_, rfl, l, _, rfl, .inl (SqL.of hL4), rfl, _, rfl, ite_f (dne (by show ((5 : Nat) : Int) ≠ 2; decide)) ?_⟩
      refine ⟨_, rfl, l, _, rfl, .inl (SqL.of hL4), rfl, _, rfl, ite_f (dne (by show ((5 : Nat) : Int) ≠ 3; decide)) ?_⟩
      refine ⟨_, rfl, l, _, rfl, .inl (SqL.of hL4), rfl, _, rfl, ite_f (dne (by show ((5 : Nat) : Int) ≠ 4; decide)) ?_⟩
      refine ⟨_, rfl, l, _, rfl, .inl (SqL.of hL4), rfl, _, rfl, ite_t (deq (by show ((5 : Nat) : Int) = 5; decide)) ?_⟩
      exact ⟨_, rfl, q4, _, _, _, rfl, rfl, SqL.of hq, rfl, _, rfl, q4, _, _, _, rfl, rfl, SqL.of hq, rfl, _, rfl, q4, _, _, _, rfl, rfl, SqL.of hq, rfl, _, rfl, q4, _, _, _, rfl, rfl, SqL.of hq, rfl, _, rfl, q4, _, _, _, rfl, rfl, SqL.of hq, rfl, mk⟩
    | [v0, v1, v2, v3, v4, v5], hul, hq, mk, hL4 =>
      refine ⟨_, rfl, l, _, rfl, .inl (SqL.of hL4), rfl, _, rfl, ite_f (dne (by show ((6 : Nat) : Int) ≠ 1; decide)) ?_⟩
      refine ⟨_, rfl, l, _, rfl, .inl (SqL.of hL4), rfl, _, rfl, ite_f (dne (by show ((6 : Nat) : Int) ≠ 2; decide)) ?_⟩
      refine ⟨_, rfl, l, _, rfl, .inl (SqL.of hL4), rfl, _, rfl, ite_f (dne (by show ((6 : Nat) : Int) ≠ 3; decide)) ?_⟩
      refine ⟨_, rfl, l, _, rfl, .inl (SqL.of hL4), rfl, _, rfl, ite_f (dne (by show ((6 : Nat) : Int) ≠ 4; decide)) ?_⟩
      refine ⟨_, rfl, l, _, rfl, .inl (SqL.of hL4), rfl, _, rfl, ite_f (dne (by show ((6 : Nat) : Int) ≠ 5; decide)) ?_⟩
      refine ⟨_, rfl, l, _, rfl, .inl (SqL.of hL4), rfl, _, rfl, ite_t (deq (by show ((6 : Nat) : Int) = 6; decide)) ?_⟩
      exact ⟨_, rfl, q4, _, _, _, rfl, rfl, SqL.of hq, rfl, _, rfl, q4, _, _, _, rfl, rfl, SqL.of hq, rfl, _, rfl, q4, _, _, _, rfl, rfl, SqL.of hq, rfl, _, rfl, q4, _, _, _, rfl, rfl, SqL.of hq, rfl, _, rfl, q4, _, _, _, rfl, rfl, SqL.of hq, rfl, _, rfl, q4, _, _, _, rfl, rfl, SqL.of hq, rfl, mk⟩
    | [v0, v1, v2, v3, v4, v5, v6], hul, hq, mk, hL4 =>
      refine ⟨_, rfl, l, _, rfl, .inl (SqL.of hL4), rfl, _, rfl, ite_f (dne (by show ((7 : Nat) : Int) ≠ 1; decide)) ?_⟩
      refine ⟨_, rfl, l, _, rfl, .inl (SqL.of hL4), rfl, _, rfl, ite_f (dne (by show ((7 : Nat) : Int) ≠ 2; decide)) ?_⟩
      refine ⟨_, rfl, l, _, rfl, .inl (SqL.of hL4), rfl, _, rfl, ite_f (dne (by show ((7 : Nat) : Int) ≠ 3; decide)) ?_⟩
      refine ⟨_, rfl, l, _, rfl, .inl (SqL.of hL4), rfl, _, rfl, ite_f (dne (by show ((7 : Nat) : Int) ≠ 4; decide)) ?_⟩
      refine ⟨_, rfl, l, _, rfl, .inl (SqL.of hL4), rfl, _, rfl, ite_f (dne (by show ((7 : Nat) : Int) ≠ 5; decide)) ?_⟩
      refine ⟨_, rfl, l, _, rfl, .inl (SqL.of hL4), rfl, _, rfl, ite_f (dne (by show ((7 : Nat) : Int) ≠ 6; decide)) ?_⟩
      refine ⟨_, rfl, l, _, rfl, .inl (SqL.of hL4), rfl, _, rfl, ite_t (deq (by show ((7 : Nat) : Int) = 7; decide)) ?_⟩
      exact ⟨_, rfl, q4, _, _, _, rfl, rfl, SqL.of hq, rfl, _, rfl, q4, _, _, _, rfl, rfl, SqL.of hq, rfl, _, rfl, q4, _, _, _, rfl, rfl, SqL.of hq, rfl, _, rfl, q4, _, _, _, rfl, rfl, SqL.of hq, rfl, _, rfl, q4, _, _, _, rfl, rfl, SqL.of hq, rfl, _, rfl, q4, _, _, _, rfl, rfl, SqL.of hq, rfl, _, rfl, q4, _, _, _, rfl, rfl, SqL.of hq, rfl, mk⟩
    | [v0, v1, v2, v3, v4, v5, v6, v7], hul, hq, mk, hL4 =>
      refine ⟨_, rfl, l, _, rfl, .inl (SqL.of hL4), rfl, _, rfl, ite_f (dne (by show ((8 : Nat) : Int) ≠ 1; decide)) ?_⟩
      refine ⟨_, rfl, l, _, rfl, .inl (SqL.of hL4), rfl, _, rfl, ite_f (dne (by show ((8 : Nat) : Int) ≠ 2; decide)) ?_⟩
      refine ⟨_, rfl, l, _, rfl, .inl (SqL.of hL4), rfl, _, rfl, ite_f (dne (by show ((8 : Nat) : Int) ≠ 3; decide)) ?_⟩
      refine ⟨_, rfl, l, _, rfl, .inl (SqL.of hL4), rfl, _, rfl, ite_f (dne (by show ((8 : Nat) : Int) ≠ 4; decide)) ?_⟩
      refine ⟨_, rfl, l, _, rfl, .inl (SqL.of hL4), rfl, _, rfl, ite_f (dne (by show ((8 : Nat) : Int) ≠ 5; decide)) ?_⟩
      refine ⟨_, rfl, l, _, rfl, .inl (SqL.of hL4), rfl, _, rfl, ite_f (dne (by show ((8 : Nat) : Int) ≠ 6; decide)) ?_⟩
      refine ⟨_, rfl, l, _, rfl, .inl (SqL.of hL4), rfl, _, rfl, ite_f (dne (by show ((8 : Nat) : Int) ≠ 7; decide)) ?_⟩
      exact ⟨_, rfl, q4, _, _, _, rfl, rfl, SqL.of hq, rfl, _, rfl, q4, _, _, _, rfl, rfl, SqL.of hq, rfl, _, rfl, q4, _, _, _, rfl, rfl, SqL.of hq, rfl, _, rfl, q4, _, _, _, rfl, rfl, SqL.of hq, rfl, _, rfl, q4, _, _, _, rfl, rfl, SqL.of hq, rfl, _, rfl, q4, _, _, _, rfl, rfl, SqL.of hq, rfl, _, rfl, q4, _, _, _, rfl, rfl, SqL.of hq, rfl, _, rfl, q4, _, _, _, rfl, rfl, SqL.of hq, rfl, mk⟩
    | _ :: _ :: _ :: _ :: _ :: _ :: _ :: _ :: _ :: r, hul, hq, mk, hL4 => exact absurd hul (by show ¬ r.length + 9 = ls.length; omega)

/-! ### _law_true -/
/-- what a test says -/
def sp__law_true (K : PySem.W.Frag) : Sp := fun vs H Q _ => ∃ (v : V) (t : Tst) (p a : Addr) (x y : Nat) (va : List Nat), vs = [v, .ref p, .ref a] ∧ Dp K H v t.d ∧ t.Ok ∧ SqT K H p [.int (x : Int), .int (y : Int)] ∧ SqT K H a (va.map fun n : Nat => V.int (n : Int)) ∧ va.length = 3 ∧ ∀ H', Same H H' → Q (.bl (t.tru x y va)) H'

theorem sc__law_true : FnScope ["test", "pair", "values", "x", "y", "number"] ["test", "pair", "values"] (defScope s__law_true) := ⟨rfl, rfl, rfl, by decide +kernel, rfl, by decide +kernel, by decide +kernel⟩
theorem ok__law_true (E : En K mg) : Good P w K mg base CX0 1 "_law_true" ["test", "pair", "values"] (sp__law_true K) := by
  obtain ⟨fd, F⟩ := E.says.def_ 13 (d := d__law_true) rfl
  refine ⟨fd, ?_, F.bindsN fun _ _ _ _ _ _ us hl => match us, hl with | [_, _, _], _ => rfl, F.kp, E.gl "_law_true"⟩
  refine F.ok sc__law_true (fun vs H Q E' h => ?_) (fun cdv A outer s H vs Q E' hr h => ?_)
  · obtain ⟨v, t, p, a, x, y, va, rfl, _⟩ := h; rfl
  · have hu64 := hu64_of hr
    refine ⟨_, PSs.nox (pss_cons (ps_asg (pv 1) (pg_tup rfl (pgs_cons (pg_name (i := 3) sc__law_true.nd rfl (by first | exact Or.inl rfl | exact Or.inr rfl)) (pgs_cons (pg_name (i := 4) sc__law_true.nd rfl (by first | exact Or.inl rfl | exact Or.inr rfl)) pgs_nil))))
      (pss_cons (ps_if (pt_cmpR op_eq (pe_ix ix_tup (pv 0) pe_int (fun _ _ => rfl)) pe_str (nomark _))
        (pss_one (ps_ret (pe_cmpR op_lt (pv 3) (pv 4) (nomark _))))
        pss_nil)
      (pss_cons (ps_if (pt_cmpR op_eq (pe_ix ix_tup (pv 0) pe_int (fun _ _ => rfl)) pe_str (nomark _))
        (pss_one (ps_ret (pe_cmpR op_eq (pv 3) (pv 4) (nomark _))))
        pss_nil)
      (pss_cons (ps_if (pt_cmpR op_eq (pe_ix ix_tup (pv 0) pe_int (fun _ _ => rfl)) pe_str (nomark _))
        (pss_one (ps_ret (pe_cmpR op_gt (pv 3) (pv 4) (nomark _))))
        pss_nil)
      (pss_cons (ps_if (pt_cmpR op_eq (pe_ix ix_tup (pv 0) pe_int (fun _ _ => rfl)) pe_str (nomark _))
        (pss_one (ps_ret (pe_cmpR op_eq (pe_ix ix_tup (pv 2) (pe_bm PySem.F.plainAttrs_list PySem.F.slot_list_index PySem.F.type_list_index mt_index (pe_lst (pa_cons pe_str (pa_cons pe_str (pa_cons pe_str pa_nil)))) (pa_cons (pe_ix ix_tup (pv 0) pe_int (fun _ _ => rfl)) pa_nil)) (fun _ _ => rfl)) (pe_ix ix_tup (pv 0) pe_int (fun _ _ => rfl)) (nomark _))))
        pss_nil)
      (pss_cons (ps_set (i := 5) sc__law_true.nd rfl (by first | exact Or.inl rfl | exact Or.inr rfl) (pe_ifExp (pt_cmpR op_eq (pe_ix ix_tup (pv 0) pe_int (fun _ _ => rfl)) pe_str (nomark _)) (pv 3) (pv 4)))
      (pss_cons (ps_if (pt_cmpR op_eq (pe_ix ix_tup (pv 0) pe_int (fun _ _ => rfl)) pe_str (nomark _))
        (pss_one (ps_ret (pe_cmpR op_eq (pv 5) pe_int (nomark _))))
        pss_nil)
      (pss_one (ps_ret (pe_cmpR op_eq (pe_op op_mod (pe_callTy call_int1 (by rfl) (E.fr "int") (by decide +kernel) (pa_cons (pv 5) pa_nil)) (pe_callB (call_max2 rfl) (by rfl) (E.fr "max") (by decide +kernel) (pa_cons pe_int (pa_cons (pe_ix ix_tup (pv 0) pe_int (fun _ _ => rfl)) pa_nil)))) (pe_ix ix_tup (pv 0) pe_int (fun _ _ => rfl)) (nomark _))))))))))), ?_⟩
    obtain ⟨v, t, p, a, x, y, va, rfl, hv, ht, hP, hV, hl, k⟩ := h
    obtain ⟨c, ws, rfl, hT, hC⟩ := Dp.tst hv
    have z3 : 3 ≤ sizeLine := by decide
    have kH := k H (Same.refl _)
    refine ⟨_, rfl, p, _, rfl, hP, rfl, _, _, rfl, _, _, rfl, rfl, ?_⟩
    cases t with
    | ord o =>
      cases o with
      | less =>
        refine ⟨_, rfl, c, _, _, _, rfl, rfl, hT, at_0 _ _, rfl, _, rfl, ite_t (Tst.w_is _ 0) ?_⟩
        refine ⟨_, rfl, _, rfl, _, _, rfl, rfl, ?_⟩
        show Q (.bl (decide ((x : Int) < (y : Int)))) H
        rw [show decide ((x : Int) < (y : Int)) = decide (x < y) from decide_eq_decide.mpr (by omega)]
        exact kH
      | equal =>
        refine ⟨_, rfl, c, _, _, _, rfl, rfl, hT, at_0 _ _, rfl, _, rfl, ite_f (Tst.w_is _ 0) ?_⟩
        refine ⟨_, rfl, c, _, _, _, rfl, rfl, hT, at_0 _ _, rfl, _, rfl, ite_t (Tst.w_is _ 1) ?_⟩
        refine ⟨_, rfl, _, rfl, rfl, ?_⟩
        rw [deN]
        exact kH
      | more =>
        refine ⟨_, rfl, c, _, _, _, rfl, rfl, hT, at_0 _ _, rfl, _, rfl, ite_f (Tst.w_is _ 0) ?_⟩
        refine ⟨_, rfl, c, _, _, _, rfl, rfl, hT, at_0 _ _, rfl, _, rfl, ite_f (Tst.w_is _ 1) ?_⟩
        refine ⟨_, rfl, c, _, _, _, rfl, rfl, hT, at_0 _ _, rfl, _, rfl, ite_t (Tst.w_is _ 2) ?_⟩
        refine ⟨_, rfl, _, rfl, _, _, rfl, rfl, ?_⟩
        show Q (.bl (decide ((y : Int) < (x : Int)))) H
        rw [show decide ((y : Int) < (x : Int)) = decide (y < x) from decide_eq_decide.mpr (by omega)]
        exact kH
    | holds v n =>
      refine ⟨_, rfl, c, _, _, _, rfl, rfl, hT, at_0 _ _, rfl, _, rfl, ite_f (Tst.w_is _ 0) ?_⟩
      refine ⟨_, rfl, c, _, _, _, rfl, rfl, hT, at_0 _ _, rfl, _, rfl, ite_f (Tst.w_is _ 1) ?_⟩
      refine ⟨_, rfl, c, _, _, _, rfl, rfl, hT, at_0 _ _, rfl, _, rfl, ite_f (Tst.w_is _ 2) ?_⟩
      refine ⟨_, rfl, c, _, _, _, rfl, rfl, hT, at_0 _ _, rfl, _, rfl, ite_t (Tst.w_is _ 4) ?_⟩
      obtain ⟨u1, u2, rfl, h1, h2⟩ := DpAll.two' hC
      obtain rfl := Dp.strE h1
      obtain rfl := Dp.intE h2
      refine ⟨_, rfl, z3, fun l hl2 => ⟨.inl ⟨rfl, _, SqL.of upd_same⟩, ?_⟩⟩
      have e1 := same_new (o := .lst [V.str "a", .str "b", .str "c"]) hl2
      refine ⟨_, rfl, c, _, _, _, rfl, rfl, seqT e1 hT, at_1 _ _ _, l, _, _, v.j, .str v.s, rfl, rfl, SqL.of upd_same, rfl, rfl, v3_at v, v3_eq v, v3_idx v, ?_⟩
      refine ⟨a, _, _, _, rfl, rfl, seqT e1 hV, atI_nat (v3_get hl v), _, rfl, c, _, _, _, rfl, rfl, seqT e1 hT, at_2 _ _ _ _, rfl, ?_⟩
      rw [deN]
      exact k _ e1
    | zero ax =>
      refine ⟨_, rfl, c, _, _, _, rfl, rfl, hT, at_0 _ _, rfl, _, rfl, ite_f (Tst.w_is _ 0) ?_⟩
      refine ⟨_, rfl, c, _, _, _, rfl, rfl, hT, at_0 _ _, rfl, _, rfl, ite_f (Tst.w_is _ 1) ?_⟩
      refine ⟨_, rfl, c, _, _, _, rfl, rfl, hT, at_0 _ _, rfl, _, rfl, ite_f (Tst.w_is _ 2) ?_⟩
      refine ⟨_, rfl, c, _, _, _, rfl, rfl, hT, at_0 _ _, rfl, _, rfl, ite_f (Tst.w_is _ 4) ?_⟩
      obtain ⟨u1, rfl, h1⟩ := DpAll.one' hC
      obtain rfl := Dp.strE h1
      refine ⟨_, rfl, c, _, _, _, rfl, rfl, hT, at_1 _ _ _, rfl, _, rfl, ?_⟩
      rw [axS_x]
      cases ax with
      | true =>
        refine ite_t rfl ⟨_, rfl, _, rfl, c, _, _, _, rfl, rfl, hT, at_0 _ _, rfl, _, rfl, ite_t (Tst.w_is _ 3) ?_⟩
        refine ⟨_, rfl, rfl, ?_⟩
        rw [show (V.int 0) = V.int ((0 : Nat) : Int) from rfl, deN]
        exact kH
      | false =>
        refine ite_f rfl ⟨_, rfl, _, rfl, c, _, _, _, rfl, rfl, hT, at_0 _ _, rfl, _, rfl, ite_t (Tst.w_is _ 3) ?_⟩
        refine ⟨_, rfl, rfl, ?_⟩
        rw [show (V.int 0) = V.int ((0 : Nat) : Int) from rfl, deN]
        exact kH
    | rest ax m r =>
      refine ⟨_, rfl, c, _, _, _, rfl, rfl, hT, at_0 _ _, rfl, _, rfl, ite_f (Tst.w_is _ 0) ?_⟩
      refine ⟨_, rfl, c, _, _, _, rfl, rfl, hT, at_0 _ _, rfl, _, rfl, ite_f (Tst.w_is _ 1) ?_⟩
      refine ⟨_, rfl, c, _, _, _, rfl, rfl, hT, at_0 _ _, rfl, _, rfl, ite_f (Tst.w_is _ 2) ?_⟩
      refine ⟨_, rfl, c, _, _, _, rfl, rfl, hT, at_0 _ _, rfl, _, rfl, ite_f (Tst.w_is _ 4) ?_⟩
      obtain ⟨u1, u2, u3, rfl, h1, h2, h3⟩ := DpAll.three' hC
      obtain rfl := Dp.strE h1
      obtain rfl := Dp.intE h2
      obtain rfl := Dp.intE h3
      have hm : m = 2 ∨ m = 3 := ht.1
      have hmax : (if (m : Int) > 1 then (m : Int) else 1) = (m : Int) := if_pos (by omega)
      refine ⟨_, rfl, c, _, _, _, rfl, rfl, hT, at_1 _ _ _, rfl, _, rfl, ?_⟩
      rw [axS_x]
      cases ax with
      | true =>
        refine ite_t rfl ⟨_, rfl, _, rfl, c, _, _, _, rfl, rfl, hT, at_0 _ _, rfl, _, rfl, ite_f (Tst.w_is _ 3) ?_⟩
        refine ⟨_, rfl, .inl ⟨_, rfl, _, rfl, c, _, _, _, rfl, rfl, hT, at_2 _ _ _ _, _, _, rfl, ?_⟩⟩
        rw [hmax]
        refine ⟨_, _, rfl, rfl, (by show (0 : Int) < (m : Int); omega), _, rfl, c, _, _, _, rfl, rfl, hT, at_3 _ _ _ _ _, rfl, ?_⟩
        show Q (.bl (decide (V.int ((x : Int) % (m : Int)) = V.int (r : Int)))) H
        rw [← Int.natCast_emod, deN]
        exact kH
      | false =>
        refine ite_f rfl ⟨_, rfl, _, rfl, c, _, _, _, rfl, rfl, hT, at_0 _ _, rfl, _, rfl, ite_f (Tst.w_is _ 3) ?_⟩
        refine ⟨_, rfl, .inl ⟨_, rfl, _, rfl, c, _, _, _, rfl, rfl, hT, at_2 _ _ _ _, _, _, rfl, ?_⟩⟩
        rw [hmax]
        refine ⟨_, _, rfl, rfl, (by show (0 : Int) < (m : Int); omega), _, rfl, c, _, _, _, rfl, rfl, hT, at_3 _ _ _ _ _, rfl, ?_⟩
        show Q (.bl (decide (V.int ((y : Int) % (m : Int)) = V.int (r : Int)))) H
        rw [← Int.natCast_emod, deN]
        exact kH

/-! ### _law_rests -/
/-- two rests, one of them moved -/
def sp__law_rests (K : PySem.W.Frag) : Sp := fun vs H Q _ => ∃ (p b : Addr) (w : Str) (ax : Bool) (m x y : Nat), vs = [.ref p, .ref b, .int (m : Int)] ∧ SqT K H p [.int (x : Int), .int (y : Int)] ∧ SqT K H b [.str w, .str (axS ax)] ∧ 0 < m ∧ m ≤ 6 ∧ x < m ∧ y < m ∧
  ∀ (q : Addr) (x' y' : Nat), x' < m → y' < m → H q = none → Q (.ref q) (upd H q (.tup [.int (x' : Int), .int (y' : Int)]))

theorem sc__law_rests : FnScope ["rests", "line", "modu", "x", "y", "sign"] ["rests", "line", "modu"] (defScope s__law_rests) := ⟨rfl, rfl, rfl, by decide +kernel, rfl, by decide +kernel, by decide +kernel⟩
theorem ok__law_rests (E : En K mg) : Good P w K mg base CX0 1 "_law_rests" ["rests", "line", "modu"] (sp__law_rests K) := by
  obtain ⟨fd, F⟩ := E.says.def_ 14 (d := d__law_rests) rfl
  refine ⟨fd, ?_, F.bindsN fun _ _ _ _ _ _ us hl => match us, hl with | [_, _, _], _ => rfl, F.kp, E.gl "_law_rests"⟩
  refine F.ok sc__law_rests (fun vs H Q E' h => ?_) (fun cdv A outer s H vs Q E' hr h => ?_)
  · obtain ⟨p, b, w, ax, m, x, y, rfl, _⟩ := h; rfl
  · have hu64 := hu64_of hr
    refine ⟨_, PSs.nox (pss_cons (ps_asg (pv 0) (pg_tup rfl (pgs_cons (pg_name (i := 3) sc__law_rests.nd rfl (by first | exact Or.inl rfl | exact Or.inr rfl)) (pgs_cons (pg_name (i := 4) sc__law_rests.nd rfl (by first | exact Or.inl rfl | exact Or.inr rfl)) pgs_nil))))
      (pss_cons (ps_set (i := 5) sc__law_rests.nd rfl (by first | exact Or.inl rfl | exact Or.inr rfl) (pe_ifExp (pt_cmpR op_eq (pe_ix ix_tup (pv 1) pe_int (fun _ _ => rfl)) pe_str (nomark _)) pe_int (pe_un un_neg pe_int)))
      (pss_cons (ps_if (pt_cmpR op_eq (pe_ix ix_tup (pv 1) pe_int (fun _ _ => rfl)) pe_str (nomark _))
        (pss_one (ps_ret (pe_tup (pa_cons (pe_op op_mod (pe_callTy call_int1 (by rfl) (E.fr "int") (by decide +kernel) (pa_cons (pe_op op_add (pv 3) (pe_op op_mul (pv 5) (pv 4))) pa_nil)) (pv 2)) (pa_cons (pv 4) pa_nil)))))
        pss_nil)
      (pss_one (ps_ret (pe_tup (pa_cons (pv 3) (pa_cons (pe_op op_mod (pe_callTy call_int1 (by rfl) (E.fr "int") (by decide +kernel) (pa_cons (pe_op op_add (pv 4) (pe_op op_mul (pv 5) (pv 3))) pa_nil)) (pv 2)) pa_nil)))))))), ?_⟩
    obtain ⟨p, b, w, ax, m, x, y, rfl, hP, hB, m0, m6, hx, hy, k⟩ := h
    have z2 : 2 ≤ sizeLine := by decide
    have md : ∀ i : Int, ∃ n : Nat, i % (m : Int) = (n : Int) ∧ n < m := fun i => by
      have h0 := Int.emod_nonneg i (show (m : Int) ≠ 0 by omega)
      have h1 := Int.emod_lt_of_pos i (show 0 < (m : Int) by omega)
      exact ⟨(i % (m : Int)).toNat, by omega, by omega⟩
    refine ⟨_, rfl, p, _, rfl, hP, rfl, _, _, rfl, _, _, rfl, rfl, ?_⟩
    have rest : ∀ sg : Int, -1 ≤ sg → sg ≤ 1 → ∀ q, H q = none → (∃ n : Nat, n < m ∧ ((x : Int) + sg * (y : Int)) % (m : Int) = (n : Int)) := fun sg _ _ q _ => by
      obtain ⟨n, e, h⟩ := md ((x : Int) + sg * (y : Int))
      exact ⟨n, h, e⟩
    clear rest
    refine ⟨_, rfl, b, _, _, _, rfl, rfl, hB, at_0 _ _, rfl, _, rfl, ?_⟩
    refine ite2 (fun _ => ?_) (fun _ => ?_)
    rotate_left
    refine ⟨_, rfl, ?_⟩
    all_goals
      refine ⟨_, rfl, b, _, _, _, rfl, rfl, hB, at_1 _ _ _, rfl, _, rfl, ?_⟩
      refine ite2 (fun _ => ?_) (fun _ => ?_)
      · refine ⟨_, rfl, _, rfl, _, rfl, _, _, rfl, rfl, .inl ⟨by decide, by decide⟩, _, _, rfl, rfl, .inl ⟨_, rfl, _, rfl, _, _, rfl, rfl, (by show (0 : Int) < (m : Int); omega), _, rfl, z2, fun q hq => ?_⟩⟩
        obtain ⟨n, e, hn⟩ := md _
        have h := k q n y hn hy hq
        rw [← e] at h
        exact h
      · refine ⟨_, rfl, _, rfl, _, rfl, _, rfl, _, _, rfl, rfl, .inl ⟨by decide, by decide⟩, _, _, rfl, rfl, .inl ⟨_, rfl, _, rfl, _, _, rfl, rfl, (by show (0 : Int) < (m : Int); omega), z2, fun q hq => ?_⟩⟩
        obtain ⟨n, e, hn⟩ := md _
        have h := k q x n hx hn hq
        rw [← e] at h
        exact h

/-! ### _law_followers -/
/-- the states behind a state -/
def sp__law_followers (K : PySem.W.Frag) : Sp := fun vs H Q _ => ∃ (a : Addr) (us : List V) (ls : List Lin) (v : V) (s : S9) (m : Nat), vs = [.ref a, v, .int (m : Int)] ∧ SqL K H a us ∧ DpAll K H us (ls.map Lin.d) ∧ (∀ x ∈ ls, x.Ok ls.length) ∧ ls.length ≤ 1000 ∧ Dp K H v s.d ∧ s.Ok ls.length m ∧ 0 < m ∧ m ≤ 6 ∧
  ∀ (l : Addr) (ws : List V) (ss : List S9) (H' : Hp), Same H H' → H l = none → H' l = some (.lst ws) → DpAll K H' ws (ss.map S9.d) → (∀ t ∈ ss, t.Ok ls.length m) → ss.length ≤ 2 → Q (.ref l) H'
def folW (K : PySem.W.Frag) (H1 : Hp) (a sa lb el : Addr) (m at_ n : Nat) (es : List Nat) : L2.St → Hp → Prop := fun σ H' => ∃ (pr pv : Addr) (x y : Nat) (va : List Nat) (s8 : Option V), σ = [some (.ref a), some (.ref sa), some (.int (m : Int)), some (.int (at_ : Int)), some (.ref pv), some (.ref pr), some (.ref lb), some (.ref el), s8, none] ∧ Same H1 H' ∧
  SqT K H' pr [.int (x : Int), .int (y : Int)] ∧ x < m ∧ y < m ∧ SqT K H' pv (va.map fun n : Nat => V.int (n : Int)) ∧ va.length = 3 ∧ (∀ z ∈ va, z ≤ 3) ∧ H' el = some (.lst (es.map fun n : Nat => V.int (n : Int))) ∧ (∀ e ∈ es, e ≤ n) ∧ es.length ≤ 2
theorem dp_nats {K : PySem.W.Frag} {H : Hp} {v : V} {ns : List Nat} (h : Dp K H v (natsT ns)) : ∃ a, v = .ref a ∧ SqT K H a (ns.map fun n : Nat => V.int (n : Int)) := by
  obtain ⟨a, xs, e, hS, hA⟩ := Dp.tup' h
  have ex : xs = ns.map fun n : Nat => V.int (n : Int) := by
    clear hS e h
    induction ns generalizing xs with
    | nil => cases hA; rfl
    | cons n ns ih =>
      cases hA with
      | cons h1 h2 =>
        obtain rfl := Dp.intE h1
        rw [ih _ h2]
        rfl
  exact ⟨a, e, ex ▸ hS⟩
theorem nats_dp {K : PySem.W.Frag} {H : Hp} {a : Addr} {ns : List Nat} (h : SqT K H a (ns.map fun n : Nat => V.int (n : Int))) : Dp K H (.ref a) (natsT ns) := by
  refine .tup h ?_
  clear h
  induction ns with
  | nil => exact .nil
  | cons n ns ih => exact .cons (.int _) ih

theorem sc__law_followers : FnScope ["rows", "state", "modu", "at", "values", "rests", "line", "ends", "spot", "end"] ["rows", "state", "modu"] (defScope s__law_followers) := ⟨rfl, rfl, rfl, by decide +kernel, rfl, by decide +kernel, by decide +kernel⟩
theorem ok__law_followers (E : En K mg) (G__law_true : Good P w K mg base CX0 1 "_law_true" ["test", "pair", "values"] (sp__law_true K)) (G__law_rests : Good P w K mg base CX0 1 "_law_rests" ["rests", "line", "modu"] (sp__law_rests K)) : Good P w K mg base CX0 2 "_law_followers" ["rows", "state", "modu"] (sp__law_followers K) := by
  obtain ⟨fd, F⟩ := E.says.def_ 15 (d := d__law_followers) rfl
  refine ⟨fd, ?_, F.bindsN fun _ _ _ _ _ _ us hl => match us, hl with | [_, _, _], _ => rfl, F.kp, E.gl "_law_followers"⟩
  refine F.ok sc__law_followers (fun vs H Q E' h => ?_) (fun cdv A outer s H vs Q E' hr h => ?_)
  · obtain ⟨a, us, ls, v, s, m, rfl, _⟩ := h; rfl
  · have hu64 := hu64_of hr
    refine ⟨_, PSs.nox (pss_cons (ps_asg (pv 1) (pg_tup rfl (pgs_cons (pg_name (i := 3) sc__law_followers.nd rfl (by first | exact Or.inl rfl | exact Or.inr rfl)) (pgs_cons (pg_name (i := 4) sc__law_followers.nd rfl (by first | exact Or.inl rfl | exact Or.inr rfl)) (pgs_cons (pg_name (i := 5) sc__law_followers.nd rfl (by first | exact Or.inl rfl | exact Or.inr rfl)) pgs_nil)))))
      (pss_cons (ps_asg (pe_tup (pa_cons (pe_ix ix_list (pv 0) (pv 3) (fun _ _ => rfl)) (pa_cons (pe_lst (pa_cons (pe_op op_add (pv 3) pe_int) pa_nil)) pa_nil))) (pg_tup rfl (pgs_cons (pg_name (i := 6) sc__law_followers.nd rfl (by first | exact Or.inl rfl | exact Or.inr rfl)) (pgs_cons (pg_name (i := 7) sc__law_followers.nd rfl (by first | exact Or.inl rfl | exact Or.inr rfl)) pgs_nil))))
      (C8.pss_cut (ps_if (pt_cmpR op_in_seq (pe_ix ix_tup (pv 6) pe_int (fun _ _ => rfl)) (pe_lst (pa_cons pe_str (pa_cons pe_str pa_nil))) (by rfl))
        (pss_one (ps_set (i := 5) sc__law_followers.nd rfl (by first | exact Or.inl rfl | exact Or.inr rfl) (pe_G G__law_rests (hr.mono (by decide)) rfl pass0 (pa_cons (pv 5) (pa_cons (pv 6) (pa_cons (pv 2) pa_nil))))))
        pss_nil)
      (C8.pss_cut (ps_if (pt_cmpR op_eq (pe_ix ix_tup (pv 6) pe_int (fun _ _ => rfl)) pe_str (nomark _))
        (pss_cons (ps_set (i := 8) sc__law_followers.nd rfl (by first | exact Or.inl rfl | exact Or.inr rfl) (pe_bm PySem.F.plainAttrs_list PySem.F.slot_list_index PySem.F.type_list_index mt_index (pe_lst (pa_cons pe_str (pa_cons pe_str (pa_cons pe_str pa_nil)))) (pa_cons (pe_ix ix_tup (pv 6) pe_int (fun _ _ => rfl)) pa_nil)))
      (pss_one (ps_set (i := 4) sc__law_followers.nd rfl (by first | exact Or.inl rfl | exact Or.inr rfl) (pe_op op_catA (pe_op op_catA (pe_slice sl_tup (pv 4) po_none (po_some (pv 8))) (pe_tup (pa_cons (pe_ix ix_tup (pv 6) pe_int (fun _ _ => rfl)) pa_nil))) (pe_slice sl_tup (pv 4) (po_some (pe_op op_add (pv 8) pe_int)) po_none)))))
        pss_nil)
      (C8.pss_cut (ps_if (PW.pt (pw_and (pt_cmpR op_eq (pe_ix ix_tup (pv 6) pe_int (fun _ _ => rfl)) pe_str (nomark _)) (pw_and1 (pt_cmpR op_in_seq (pe_ix ix_tup (pe_ix ix_tup (pv 6) pe_int (fun _ _ => rfl)) pe_int (fun _ _ => rfl)) (pe_lst (pa_cons pe_str (pa_cons pe_str pa_nil))) (by rfl)))))
        (pss_one (ps_set (i := 7) sc__law_followers.nd rfl (by first | exact Or.inl rfl | exact Or.inr rfl) (pe_lst (pa_cons (pe_ifExp (pt_val (pe_G G__law_true (hr.mono (by decide)) rfl pass0 (pa_cons (pe_ix ix_tup (pv 6) pe_int (fun _ _ => rfl)) (pa_cons (pv 5) (pa_cons (pv 4) pa_nil))))) (pe_ix ix_tup (pv 6) pe_int (fun _ _ => rfl)) (pe_op op_add (pv 3) pe_int)) pa_nil))))
        (pss_one (ps_if (pt_cmpR op_in_seq (pe_ix ix_tup (pv 6) pe_int (fun _ _ => rfl)) (pe_lst (pa_cons pe_str (pa_cons pe_str pa_nil))) (by rfl))
        (pss_one (ps_set (i := 7) sc__law_followers.nd rfl (by first | exact Or.inl rfl | exact Or.inr rfl) (pe_lst (pa_cons (pe_op op_add (pv 3) pe_int) (pa_cons (pe_ix ix_tup (pv 6) (pe_un un_neg pe_int) (fun _ _ => rfl)) pa_nil)))))
        pss_nil)))
      (C8.pss_cut (ps_if (pt_cmpR op_eq (pe_ix ix_tup (pv 6) pe_int (fun _ _ => rfl)) pe_str (nomark _))
        (pss_one (ps_set (i := 7) sc__law_followers.nd rfl (by first | exact Or.inl rfl | exact Or.inr rfl) (pe_lst (pa_cons (pe_ix ix_tup (pv 6) pe_int (fun _ _ => rfl)) pa_nil))))
        pss_nil)
      (pss_one (ps_ret (pe_lc (own := [("end", 9)]) (by rfl) sc__law_followers.nd (pi_list (pv 7)) (blkOk_by (N := ["rows", "state", "modu", "at", "values", "rests", "line", "ends", "spot", "end"]) (sc := defScope s__law_followers) (by decide +kernel)) (by exact fun _ _ _ _ _ => (pg_name (i := 9) sc__law_followers.nd rfl (by first | exact Or.inl rfl | exact Or.inr rfl))) (by exact fun _ _ _ _ _ => (pts_one (PW.pt (pw_and (pt_cmpR op_lt (pv 9) (pe_callB (show CallR _ _ (rLenC K) from call_len_seq) (by rfl) (E.fr "len") (by decide +kernel) (pa_cons (pv 0) pa_nil)) (nomark _)) (pw_and1 (pt_cmpR op_ne (pe_ix (show IxR _ (rIxT K) from ix_tup) (pv 6) pe_int (fun _ _ => rfl)) pe_str (nomark _))))))) (by exact fun _ _ _ _ _ => (pe_tup (pa_cons (pv 9) (pa_cons (pv 4) (pa_cons (pv 5) pa_nil)))))))))))))), ?_⟩
    obtain ⟨a, us, ls, v, s, m, rfl, hL, hA, hok, hn, hv, hs, m0, m6, k⟩ := h
    have z1 : 1 ≤ sizeLine := by decide
    have z2 : 2 ≤ sizeLine := by decide
    have z3 : 3 ≤ sizeLine := by decide
    obtain ⟨at_, vs, x, y⟩ := s
    obtain ⟨hat, hvl, hv3, hxm, hym⟩ := hs
    have hat : at_ < ls.length := hat
    have hvl : vs.length = 3 := hvl
    have hv3 : ∀ z ∈ vs, z ≤ 3 := hv3
    have hxm : x < m := hxm
    have hym : y < m := hym
    obtain ⟨sa, xs, rfl, hS, hD⟩ := Dp.tup' hv
    obtain ⟨u1, u2, u3, rfl, g1, g2, g3⟩ := DpAll.three' hD
    obtain rfl := Dp.intE g1
    obtain ⟨pv0, rfl, hV⟩ := dp_nats g2
    obtain ⟨pr0, ys, rfl, hR, hD2⟩ := Dp.tup' g3
    obtain ⟨w1, w2, rfl, f1, f2⟩ := DpAll.two' hD2
    obtain rfl := Dp.intE f1
    obtain rfl := Dp.intE f2
    have hul : us.length = ls.length := by
      have := DpAll.length hA
      rw [List.length_map] at this
      exact this
    -- at, values, rests = state
    refine ⟨_, rfl, sa, _, rfl, hS, rfl, _, _, rfl, _, _, rfl, _, _, rfl, rfl, ?_⟩
    -- line, ends = rows[at], [at + 1]
    have hz : us[at_]? = some us[at_] := List.getElem?_eq_getElem (by omega)
    obtain ⟨l, hl, hlv⟩ := lin_at hA hz
    have hx := hok l (List.mem_of_getElem? hl)
    obtain ⟨lb, ws, elb, hB, hC⟩ := Dp.lin hlv
    refine ⟨_, rfl, _, rfl, a, _, _, _, rfl, rfl, hL, atI_nat hz, _, rfl, _, _, rfl, rfl, z1, fun el hel => ⟨z2, fun q hq => ?_⟩⟩
    rw [elb]
    have eE := same_new (o := .lst [V.int ((at_ : Int) + 1)]) hel
    have eQ := same_new (o := .tup [V.ref lb, V.ref el]) hq
    have e1 := eE.trans eQ
    refine ⟨q, _, rfl, SqT.of upd_same, rfl, _, _, rfl, _, _, rfl, rfl, ?_⟩
    have hel1 := eQ _ _ (upd_same (a := el) (o := .lst [V.int ((at_ : Int) + 1)]) (H := H))
    have hL1 := Same.seq e1 hL
    have hB1 := seqT e1 hB
    have hC1 := Dp.sameAll e1 hC
    have hV1 := seqT e1 hV
    have hR1 := seqT e1 hR
    have e0 := e1
    generalize upd (upd H el _) q _ = H1 at *
    clear hq hel eQ eE e1 hS hD g1 g2 g3 hR hD2 f1 f2 hV hv hB hC
    have start : folW K H1 a sa lb el m at_ ls.length [at_ + 1] [some (.ref a), some (.ref sa), some (.int (m : Int)), some (.int (at_ : Int)), some (.ref pv0), some (.ref pr0), some (.ref lb), some (.ref el), none, none] H1 :=
      ⟨pr0, pv0, x, y, vs, none, rfl, Same.refl _, hR1, hxm, hym, hV1, hvl, hv3, hel1, fun e he => by rw [List.mem_singleton.mp he]; omega, by simp⟩
    -- if line[0] in ["add", "take"]
    refine ⟨folW K H1 a sa lb el m at_ ls.length [at_ + 1], ?_, ?_⟩
    · refine ⟨_, rfl, lb, _, _, _, rfl, rfl, hB1, at_0 _ _, z2, fun l1 h1 => ⟨l1, _, rfl, .inl (SqL.of upd_same), rfl, rfl, _, rfl, ?_⟩⟩
      have f1 := same_new (o := .lst [V.str "add", .str "take"]) h1
      have step : ∀ (w : Str) (ax : Bool), SqT K H1 lb [.str w, .str (axS ax)] → sp__law_rests K [.ref pr0, .ref lb, .int (m : Int)] (upd H1 l1 (.lst [V.str "add", .str "take"])) (fun v H' => folW K H1 a sa lb el m at_ ls.length [at_ + 1] [some (.ref a), some (.ref sa), some (.int (m : Int)), some (.int (at_ : Int)), some (.ref pv0), some v, some (.ref lb), some (.ref el), none, none] H') E' := fun w ax hw =>
        ⟨pr0, lb, w, ax, m, x, y, rfl, seqT f1 hR1, seqT f1 hw, m0, m6, hxm, hym, fun q x' y' hx' hy' hq => by
          have f2 := same_new (o := .tup [V.int (x' : Int), .int (y' : Int)]) hq
          exact ⟨q, pv0, x', y', vs, none, rfl, f1.trans f2, SqT.of upd_same, hx', hy', seqT (f1.trans f2) hV1, hvl, hv3, (f1.trans f2) _ _ hel1, fun e he => by rw [List.mem_singleton.mp he]; omega, by simp⟩⟩
      have skip : folW K H1 a sa lb el m at_ ls.length [at_ + 1] [some (.ref a), some (.ref sa), some (.int (m : Int)), some (.int (at_ : Int)), some (.ref pv0), some (.ref pr0), some (.ref lb), some (.ref el), none, none] (upd H1 l1 (.lst [V.str "add", .str "take"])) :=
        ⟨pr0, pv0, x, y, vs, none, rfl, f1, seqT f1 hR1, hxm, hym, seqT f1 hV1, hvl, hv3, f1 _ _ hel1, fun e he => by rw [List.mem_singleton.mp he]; omega, by simp⟩
      cases l with
      | add ax =>
        obtain ⟨u, rfl, hu⟩ := DpAll.one' hC1
        obtain rfl := Dp.strE hu
        exact ite_t (Lin.w_in2 (.add ax) 0 1) ⟨_, rfl, _, rfl, _, rfl, step _ ax hB1⟩
      | take ax =>
        obtain ⟨u, rfl, hu⟩ := DpAll.one' hC1
        obtain rfl := Dp.strE hu
        exact ite_t (Lin.w_in2 (.take ax) 0 1) ⟨_, rfl, _, rfl, _, rfl, step _ ax hB1⟩
      | _ => exact ite_f (Lin.w_in2 _ 0 1) skip
    rintro σ H2 ⟨pr, pv, x, y, va, s8, rfl, e2, hR2, hx2, hy2, hV2, hl2, hv2, hE2, hE3, hE4⟩
    clear start hR1 hV1 hel1
    -- if line[0] == "set"
    refine ⟨folW K H1 a sa lb el m at_ ls.length [at_ + 1], ?_, ?_⟩
    · have hB2 := seqT e2 hB1
      refine ⟨_, rfl, lb, _, _, _, rfl, rfl, hB2, at_0 _ _, rfl, _, rfl, ?_⟩
      have skip : folW K H1 a sa lb el m at_ ls.length [at_ + 1] [some (.ref a), some (.ref sa), some (.int (m : Int)), some (.int (at_ : Int)), some (.ref pv), some (.ref pr), some (.ref lb), some (.ref el), s8, none] H2 :=
        ⟨pr, pv, x, y, va, s8, rfl, e2, hR2, hx2, hy2, hV2, hl2, hv2, hE2, hE3, hE4⟩
      cases l with
      | set v n =>
        obtain ⟨u1, u2, rfl, g1, g2⟩ := DpAll.two' hC1
        obtain rfl := Dp.strE g1
        obtain rfl := Dp.intE g2
        have hj := v3_lt v
        refine ite_t (Lin.w_is (.set v n) 2) ⟨z3, fun l1 h1 => ⟨.inl ⟨rfl, _, SqL.of upd_same⟩, ?_⟩⟩
        have f1 := same_new (o := .lst [V.str "a", .str "b", .str "c"]) h1
        refine ⟨_, rfl, lb, _, _, _, rfl, rfl, seqT f1 hB2, at_1 _ _ _, l1, _, _, v.j, .str v.s, rfl, rfl, SqL.of upd_same, rfl, rfl, v3_at v, v3_eq v, v3_idx v, ?_⟩
        have hB3 := seqT f1 hB2
        have hV3 := seqT f1 hV2
        have e3 := e2.trans f1
        have hR3 := seqT f1 hR2
        have hE5 := f1 _ _ hE2
        generalize upd H2 l1 (.lst [V.str "a", .str "b", .str "c"]) = H3 at *
        have lv : (va.map fun n : Nat => V.int (n : Int)).length = 3 := by rw [List.length_map, hl2]
        refine ⟨_, rfl, _, rfl, _, rfl, pv, _, rfl, hV3, nwTo (by omega), fun p1 hp1 => ?_⟩
        rw [cut_to' (by omega)]
        have f2 := same_new (o := .tup ((va.map fun n : Nat => V.int (n : Int)).take v.j)) hp1
        refine ⟨_, rfl, lb, _, _, _, rfl, rfl, seqT f2 hB3, at_2 _ _ _ _, z1, fun p2 hp2 => ?_⟩
        have f3 := same_new (o := .tup [V.int (n : Int)]) hp2
        refine catA_ok (seqT f3 (SqT.of upd_same)) (SqT.of upd_same) (by rw [List.length_take]; show _ + 1 ≤ _; omega) fun p3 H4 e4 hs4 => ?_
        have e14 := f2.trans (f3.trans e4)
        refine ⟨_, rfl, _, rfl, _, _, rfl, rfl, _, rfl, pv, _, rfl, seqT e14 hV3, nwFrom (j := v.j + 1) (by omega) (by omega), fun p5 hp5 => ?_⟩
        have ecut : cutV (va.map fun n : Nat => V.int (n : Int)) (some ((v.j : Int) + 1)) none = (va.map fun n : Nat => V.int (n : Int)).drop (v.j + 1) := cut_from _ (v.j + 1)
        rw [ecut]
        have f5 := same_new (o := .tup ((va.map fun n : Nat => V.int (n : Int)).drop (v.j + 1))) hp5
        refine catA_ok (seqT f5 hs4) (SqT.of upd_same) (by rw [List.length_append, List.length_take, List.length_drop]; show _ + 1 + _ ≤ _; omega) fun p6 H7 e7 hs7 => ?_
        have e17 := e14.trans (f5.trans e7)
        rw [set_cut (by omega)] at hs7
        refine ⟨pr, p6, x, y, va.set v.j n, _, rfl, e3.trans e17, seqT e17 hR3, hx2, hy2, hs7, by rw [List.length_set, hl2], fun z hz => ?_, e17 _ _ hE5, hE3, hE4⟩
        rcases List.mem_or_eq_of_mem_set hz with h | h
        · exact hv2 z h
        · rw [h]; exact hx
      | _ => exact ite_f (Lin.w_is _ 2) skip
    clear hR2 hx2 hy2 hV2 hl2 hv2 hE2 hE3 hE4 e2 pr pv x y va s8 H2
    rintro σ H2 ⟨pr, pv, x, y, va, s8, rfl, e2, hR2, hx2, hy2, hV2, hl2, hv2, hE2, hE3, hE4⟩
    -- if .. elif
    have made : ∀ (es : List Nat) (el' : Addr) (H' : Hp), Same H2 H' → H' el' = some (.lst (es.map fun n : Nat => V.int (n : Int))) → (∀ e ∈ es, e ≤ ls.length) → es.length ≤ 2 → ∃ (el : Addr) (es : List Nat), folW K H1 a sa lb el m at_ ls.length es [some (.ref a), some (.ref sa), some (.int (m : Int)), some (.int (at_ : Int)), some (.ref pv), some (.ref pr), some (.ref lb), some (.ref el'), s8, none] H' := fun es el' H' e h1 h2 h3 =>
      ⟨el', es, pr, pv, x, y, va, s8, rfl, e2.trans e, seqT e hR2, hx2, hy2, seqT e hV2, hl2, hv2, h1, h2, h3⟩
    refine ⟨fun σ H' => ∃ (el : Addr) (es : List Nat), folW K H1 a sa lb el m at_ ls.length es σ H', ?_, ?_⟩
    · have hB2 := seqT e2 hB1
      refine ⟨_, rfl, lb, _, _, _, rfl, rfl, hB2, at_0 _ _, rfl, _, rfl, ?_⟩
      cases l with
      | test t tg =>
        obtain ⟨u1, u2, rfl, g1, g2⟩ := DpAll.two' hC1
        obtain rfl := Dp.intE g2
        obtain ⟨tb, w2, rfl, hT, hTC⟩ := Dp.tst g1
        have htg : tg ≤ ls.length := hx.2
        have hT2 := seqT e2 hT
        refine ite_t (Lin.w_is (.test t tg) 3) ⟨_, rfl, lb, _, _, _, rfl, rfl, hB2, at_1 _ _ _, tb, _, _, _, rfl, rfl, hT2, at_0 _ _, z2, fun l1 h1 => ⟨l1, _, rfl, .inl (SqL.of upd_same), rfl, rfl, _, rfl, ?_⟩⟩
        have f1 := same_new (o := .lst [V.str "rest", .str "holds"]) h1
        rw [show inV (V.str t.w) [V.str "rest", V.str "holds"] = decide (t.wi = 5 ∨ t.wi = 4) from Tst.w_in2 t 5 4]
        refine ite2 (fun _ => ?_) (fun _ => ?_)
        · -- ends = [line[2] if .. else at + 1]
          refine ⟨_, rfl, lb, _, _, _, rfl, rfl, seqT f1 hB2, at_1 _ _ _, _, rfl, _, rfl, .ref tb, t, pr, pv, x, y, va, rfl, Dp.same (e2.trans f1) g1, hx.1, seqT f1 hR2, seqT f1 hV2, hl2, fun H' e' => ⟨_, rfl, ?_⟩⟩
          have f2 := f1.trans e'
          refine ite2 (fun _ => ⟨_, rfl, lb, _, _, _, rfl, rfl, seqT f2 hB2, at_2 _ _ _ _, z1, fun l2 h2 => ?_⟩) (fun _ => ⟨_, rfl, _, _, rfl, rfl, z1, fun l2 h2 => ?_⟩)
          · exact made [tg] l2 _ (f2.trans (same_new h2)) upd_same (fun e he => by rw [List.mem_singleton.mp he]; exact htg) (by simp)
          · exact made [at_ + 1] l2 _ (f2.trans (same_new h2)) upd_same (fun e he => by rw [List.mem_singleton.mp he]; omega) (by simp)
        · -- elif line[0] in ["if", "choose"]
          refine ⟨_, rfl, lb, _, _, _, rfl, rfl, seqT f1 hB2, at_0 _ _, z2, fun l2 h2 => ⟨l2, _, rfl, .inl (SqL.of upd_same), rfl, rfl, _, rfl, ?_⟩⟩
          have f2 := f1.trans (same_new (o := .lst [V.str "if", .str "choose"]) h2)
          refine ite_t (Lin.w_in2 (.test t tg) 3 4) ⟨_, rfl, _, _, rfl, rfl, _, rfl, _, rfl, lb, _, _, _, rfl, rfl, seqT f2 hB2, rfl, z2, fun l3 h3 => ?_⟩
          exact made [at_ + 1, tg] l3 _ (f2.trans (same_new h3)) upd_same (fun e he => by rcases List.mem_cons.mp he with rfl | he; omega; rw [List.mem_singleton.mp he]; exact htg) (by simp)
      | choose tg =>
        obtain ⟨u1, rfl, g1⟩ := DpAll.one' hC1
        obtain rfl := Dp.intE g1
        have htg : tg ≤ ls.length := hx
        refine ite_f (Lin.w_is (.choose tg) 3) ?_
        refine ite_f rfl ⟨_, rfl, lb, _, _, _, rfl, rfl, hB2, at_0 _ _, z2, fun l2 h2 => ⟨l2, _, rfl, .inl (SqL.of upd_same), rfl, rfl, _, rfl, ?_⟩⟩
        have f2 := same_new (o := .lst [V.str "if", .str "choose"]) h2
        refine ite_t (Lin.w_in2 (.choose tg) 3 4) ⟨_, rfl, _, _, rfl, rfl, _, rfl, _, rfl, lb, _, _, _, rfl, rfl, seqT f2 hB2, rfl, z2, fun l3 h3 => ?_⟩
        exact made [at_ + 1, tg] l3 _ (f2.trans (same_new h3)) upd_same (fun e he => by rcases List.mem_cons.mp he with rfl | he; omega; rw [List.mem_singleton.mp he]; exact htg) (by simp)
      | _ =>
        refine ite_f (Lin.w_is _ 3) ?_
        refine ite_f rfl ⟨_, rfl, lb, _, _, _, rfl, rfl, hB2, at_0 _ _, z2, fun l2 h2 => ⟨l2, _, rfl, .inl (SqL.of upd_same), rfl, rfl, _, rfl, ?_⟩⟩
        have f2 := same_new (o := .lst [V.str "if", .str "choose"]) h2
        exact ite_f (Lin.w_in2 _ 3 4) (made [at_ + 1] el _ f2 (f2 _ _ hE2) hE3 (by simp))
    clear made hR2 hx2 hy2 hV2 hl2 hv2 hE2 hE3 hE4 e2 pr pv x y va s8 H2
    rintro σ H2 ⟨el, es, pr, pv, x, y, va, s8, rfl, e2, hR2, hx2, hy2, hV2, hl2, hv2, hE2, hE3, hE4⟩
    -- if line[0] == "go"
    refine ⟨fun σ H' => ∃ (el : Addr) (es : List Nat), folW K H1 a sa lb el m at_ ls.length es σ H', ?_, ?_⟩
    · have hB2 := seqT e2 hB1
      refine ⟨_, rfl, lb, _, _, _, rfl, rfl, hB2, at_0 _ _, rfl, _, rfl, ?_⟩
      cases l with
      | go tg =>
        obtain ⟨u1, rfl, g1⟩ := DpAll.one' hC1
        obtain rfl := Dp.intE g1
        have htg : tg ≤ ls.length := hx
        refine ite_t (Lin.w_is (.go tg) 5) ⟨_, rfl, lb, _, _, _, rfl, rfl, hB2, at_1 _ _ _, z1, fun l2 h2 => ?_⟩
        have f2 := same_new (o := .lst [V.int (tg : Int)]) h2
        exact ⟨l2, [tg], pr, pv, x, y, va, s8, rfl, e2.trans f2, seqT f2 hR2, hx2, hy2, seqT f2 hV2, hl2, hv2, upd_same, fun e he => by rw [List.mem_singleton.mp he]; exact htg, by simp⟩
      | _ => exact ite_f (Lin.w_is _ 5) ⟨el, es, pr, pv, x, y, va, s8, rfl, e2, hR2, hx2, hy2, hV2, hl2, hv2, hE2, hE3, hE4⟩
    clear hR2 hx2 hy2 hV2 hl2 hv2 hE2 hE3 hE4 e2 pr pv x y va s8 H2 el es
    rintro σ H2 ⟨el, es, pr, pv, x, y, va, s8, rfl, e2, hR2, hx2, hy2, hV2, hl2, hv2, hE2, hE3, hE4⟩
    -- return
    have hB2 := seqT e2 hB1
    have hL2 := Same.seq e2 hL1
    refine ⟨_, rfl, el, rfl, ⟨_, SqL.of hE2⟩, fun D hD => ?_⟩
    refine lc_list (K := K) (a := el) (xs := es.map fun n : Nat => V.int (n : Int)) (fun i H' => Same H2 H' ∧ ∃ (ws : List V) (ss : List S9), H' D = some (.lst ws) ∧ DpAll K H' ws (ss.map S9.d) ∧ (∀ t ∈ ss, t.Ok ls.length m) ∧ ss.length ≤ i) ⟨same_new hD, [], [], upd_same, .nil, fun t ht => absurd ht List.not_mem_nil, Nat.le_refl _⟩ (fun _ H' _ q => SqL.of (q.1 _ _ hE2)) ?_ ?_
    · rintro i z H3 hz ⟨e3, ws, ss, hW, hA3, hs3, hl3⟩
      rw [List.getElem?_map] at hz
      obtain ⟨e, he, rfl⟩ := Option.map_eq_some_iff.mp hz
      have hE := hE3 e (List.mem_of_getElem? he)
      have hi2 : i < 2 := by
        have := (List.getElem?_eq_some_iff.mp he).1
        omega
      have wl : ws.length = ss.length := by
        have := DpAll.length hA3
        rw [List.length_map] at this
        exact this
      have stay : Same H2 H3 ∧ ∃ (ws : List V) (ss : List S9), H3 D = some (.lst ws) ∧ DpAll K H3 ws (ss.map S9.d) ∧ (∀ t ∈ ss, t.Ok ls.length m) ∧ ss.length ≤ i + 1 := ⟨e3, ws, ss, hW, hA3, hs3, by omega⟩
      refine ⟨rfl, _, rfl, _, rfl, a, _, rfl, .inl (Same.seq e3 hL2), _, _, rfl, rfl, _, rfl, ?_⟩
      by_cases c : e < ls.length
      · refine ite_t (decide_eq_true (by rw [hul]; omega)) ⟨_, rfl, lb, _, _, _, rfl, rfl, seqT e3 hB2, at_0 _ _, rfl, _, rfl, ?_⟩
        refine ite2 (fun _ => ⟨_, rfl, _, rfl, _, rfl, z3, fun q hq => ?_⟩) (fun _ => stay)
        have f4 := same_new (o := .tup [V.int (e : Int), .ref pv, .ref pr]) hq
        have hW4 := f4 _ _ hW
        have f34 := e3.trans f4
        have new : Dp K (upd H3 q (.tup [V.int (e : Int), .ref pv, .ref pr])) (.ref q) (S9.d ⟨e, va, x, y⟩) := .tup (SqT.of upd_same) (.cons (.int _) (.cons (nats_dp (seqT f34 hV2)) (.cons (.tup (seqT f34 hR2) (.cons (.int _) (.cons (.int _) .nil))) .nil)))
        refine ⟨ws, hW4, szl (by omega), same_mut f34 hD, ws ++ [.ref q], ss ++ [⟨e, va, x, y⟩], upd_same, ?_, fun t ht => ?_, by rw [List.length_append]; show _ + 1 ≤ _; omega⟩
        · refine Dp.sameTs (.put hW4) (s9_nls _) ?_
          rw [List.map_append]
          exact DpAll.append (Dp.sameAll f4 hA3) (.cons new .nil)
        · rcases List.mem_append.mp ht with ht | ht
          · exact hs3 t ht
          · rw [List.mem_singleton.mp ht]
            exact ⟨c, hl2, hv2, hx2, hy2⟩
      · exact ite_f (decide_eq_false (by rw [hul]; omega)) stay
    rintro H3 ⟨e3, ws, ss, hW, hA3, hs3, hl3⟩
    rw [List.length_map] at hl3
    exact k D ws ss H3 (e0.trans (e2.trans e3)) (free_same (e0.trans e2) hD) hW hA3 hs3 (by omega)

/-! ### _law_modulus -/
/-- a modulus that serves the rests of the lines -/
def sp__law_modulus (K : PySem.W.Frag) : Sp := fun vs H Q _ => ∃ (a : Addr) (us : List V) (ls : List Lin) (n : Nat), vs = [.ref a] ∧ SqL K H a us ∧ DpAll K H us (ls.map Lin.d) ∧ (∀ x ∈ ls, x.Ok n) ∧ ∀ m : Nat, (m = 1 ∨ m = 2 ∨ m = 3 ∨ m = 6) → Q (.int (m : Int)) H

theorem sc__law_modulus : FnScope ["rows", "found", "row"] ["rows"] (defScope s__law_modulus) := ⟨rfl, rfl, rfl, by decide +kernel, rfl, by decide +kernel, by decide +kernel⟩
theorem ok__law_modulus (E : En K mg) : Good P w K mg base CX0 1 "_law_modulus" ["rows"] (sp__law_modulus K) := by
  obtain ⟨fd, F⟩ := E.says.def_ 16 (d := d__law_modulus) rfl
  refine ⟨fd, ?_, F.bindsN fun _ _ _ _ _ _ us hl => match us, hl with | [_], _ => rfl, F.kp, E.gl "_law_modulus"⟩
  refine F.ok sc__law_modulus (fun vs H Q E' h => ?_) (fun cdv A outer s H vs Q E' hr h => ?_)
  · obtain ⟨a, us, ls, n, rfl, _⟩ := h; rfl
  · have hu64 := hu64_of hr
    refine ⟨_, PSs.nox (pss_cons (ps_set (i := 1) sc__law_modulus.nd rfl (by first | exact Or.inl rfl | exact Or.inr rfl) pe_int)
      (pss_cons (ps_for PassesOwn.never rfl (pi_list (pv 0)) (pg_name (i := 2) sc__law_modulus.nd rfl (by first | exact Or.inl rfl | exact Or.inr rfl))
        (pss_one (ps_if (PW.pt (pw_and (pt_cmpR op_eq (pe_ix ix_tup (pv 2) pe_int (fun _ _ => rfl)) pe_str (nomark _)) (pw_and (pt_cmpR op_eq (pe_ix ix_tup (pe_ix ix_tup (pv 2) pe_int (fun _ _ => rfl)) pe_int (fun _ _ => rfl)) pe_str (nomark _)) (pw_and1 (pt_cmpR op_gt (pe_op op_mod (pe_callTy call_int1 (by rfl) (E.fr "int") (by decide +kernel) (pa_cons (pv 1) pa_nil)) (pe_ix ix_tup (pe_ix ix_tup (pv 2) pe_int (fun _ _ => rfl)) pe_int (fun _ _ => rfl))) pe_int (nomark _))))))
        (pss_one (ps_set (i := 1) sc__law_modulus.nd rfl (by first | exact Or.inl rfl | exact Or.inr rfl) (pe_op op_mul (pv 1) (pe_ix ix_tup (pe_ix ix_tup (pv 2) pe_int (fun _ _ => rfl)) pe_int (fun _ _ => rfl)))))
        pss_nil)))
      (pss_one (ps_ret (pv 1))))), ?_⟩
    obtain ⟨a, us, ls, n, rfl, hL, hA, hok, k⟩ := h
    refine ⟨_, rfl, a, rfl, ⟨_, hL⟩, for_list (K := K) (a := a) (xs := us) (fun i σ H' => H' = H ∧ ∃ (m : Nat) (s2 : Option V), σ = [some (.ref a), some (.int (m : Int)), s2] ∧ (m = 1 ∨ m = 2 ∨ m = 3 ∨ m = 6)) ⟨rfl, 1, _, rfl, .inl rfl⟩ (fun _ σ H' _ q => by rw [q.1]; exact hL) ?_ ?_⟩
    · rintro i z σ H' hz ⟨rfl, m, s2, rfl, hm⟩
      obtain ⟨l, hl, hv⟩ := lin_at hA hz
      have hx := hok l (List.mem_of_getElem? hl)
      obtain ⟨b, ws, rfl, hS, hB⟩ := Dp.lin hv
      have stay : ∀ s2 : Option V, H' = H' ∧ ∃ (m' : Nat) (s2' : Option V), [some (V.ref a), some (V.int (m : Int)), s2] = [some (V.ref a), some (V.int (m' : Int)), s2'] ∧ (m' = 1 ∨ m' = 2 ∨ m' = 3 ∨ m' = 6) := fun s2 => ⟨rfl, m, s2, rfl, hm⟩
      refine ⟨_, rfl, b, _, _, _, rfl, rfl, hS, at_0 _ _, rfl, _, rfl, ?_⟩
      cases l with
      | test t tg =>
        refine ite_t (Lin.w_is (.test t tg) 3) ?_
        obtain ⟨u1, u2, rfl, h1, h2⟩ := DpAll.two' hB
        obtain ⟨c, w2, rfl, hT, hC⟩ := Dp.tst h1
        refine ⟨_, rfl, b, _, _, _, rfl, rfl, hS, at_1 _ _ _, c, _, _, _, rfl, rfl, hT, at_0 _ _, rfl, _, rfl, ?_⟩
        cases t with
        | rest ax m2 r =>
          refine ite_t (Tst.w_is (.rest ax m2 r) 5) ?_
          obtain ⟨x1, x2, x3, rfl, g1, g2, g3⟩ := DpAll.three' hC
          obtain rfl := Dp.intE g2
          have hm2 : m2 = 2 ∨ m2 = 3 := hx.1.1
          refine ⟨_, rfl, .inl ⟨_, rfl, _, rfl, b, _, _, _, rfl, rfl, hS, at_1 _ _ _, c, _, _, _, rfl, rfl, hT, at_2 _ _ _ _, _, _, rfl, rfl, (by show (0 : Int) < (m2 : Int); omega), _, _, rfl, rfl, _, rfl, ?_⟩⟩
          refine ite2 (fun cc => ?_) (fun _ => stay _)
          have cc : (m : Int) % (m2 : Int) > 0 := of_decide_eq_true cc
          refine ⟨_, rfl, _, rfl, b, _, _, _, rfl, rfl, hS, at_1 _ _ _, c, _, _, _, rfl, rfl, hT, at_2 _ _ _ _, _, _, rfl, rfl, .inl ⟨by omega, by omega⟩, rfl, m * m2, _, rfl, ?_⟩
          rcases hm with rfl | rfl | rfl | rfl <;> rcases hm2 with rfl | rfl <;> first | omega | exact absurd cc (by decide)
        | ord o => exact ite_f (by cases o <;> exact Tst.w_is _ 5) (stay _)
        | _ => exact ite_f (Tst.w_is _ 5) (stay _)
      | _ => exact ite_f (Lin.w_is _ 3) (stay _)
    rintro σ H' ⟨rfl, m, s2, rfl, hm⟩
    exact ⟨_, rfl, k m hm⟩

/-! ### _law_states -/
/-- some list of states: there is an end -/
def sp__law_states (K : PySem.W.Frag) : Sp := fun vs H Q _ => ∃ (a : Addr) (us : List V) (ls : List Lin), vs = [.ref a] ∧ SqL K H a us ∧ DpAll K H us (ls.map Lin.d) ∧ (∀ x ∈ ls, x.Ok ls.length) ∧ 0 < ls.length ∧ ls.length ≤ 20 ∧
  ∀ (l : Addr) (ws : List V) (ss : List S9) (H' : Hp), Same H H' → H' l = some (.lst ws) → DpAll K H' ws (ss.map S9.d) → Q (.ref l) H'
structure StsW (K : PySem.W.Frag) (P : Program) (w : World) (H H' : Hp) (l d : Addr) (n m : Nat) (us : List V) (ss : List S9) (kvs : List EnN) : Prop where
  sm : Same H H'
  fl : H' l = some (.lst us)
  dp : DpAll K H' us (ss.map S9.d)
  nd : ss.Nodup
  ok : ∀ s ∈ ss, s.Ok n m
  fd : H' d = some (dN P w d kvs)
  kn : Knw K H' kvs ss
theorem StsW.len {K : PySem.W.Frag} {P : Program} {w : World} {H H' : Hp} {l d : Addr} {n m : Nat} {us : List V} {ss : List S9} {kvs : List EnN} (h : StsW K P w H H' l d n m us ss kvs) (hm : m ≤ 6) : us.length = ss.length ∧ ss.length ≤ n * 2304 := by
  have h1 := DpAll.length h.dp
  rw [List.length_map] at h1
  refine ⟨h1, ?_⟩
  rw [← uniS_len n]
  exact sub_len _ _ h.nd fun s hs => uniS_mem hm (h.ok s hs)
theorem StsW.grow {K : PySem.W.Frag} {P : Program} {w : World} {H H' H2 : Hp} {l d : Addr} {n m : Nat} {us : List V} {ss : List S9} {kvs : List EnN} (h : StsW K P w H H' l d n m us ss kvs) (e : Same H' H2) : StsW K P w H H2 l d n m us ss kvs :=
  ⟨h.sm.trans e, e _ _ h.fl, Dp.sameAll e h.dp, h.nd, h.ok, e _ _ h.fd, h.kn.tupX (.of e)⟩
/-- known[state] = True; found.append(state) -/
theorem StsW.push {K : PySem.W.Frag} {P : Program} {w : World} {H H' : Hp} {l d b : Addr} {n m : Nat} {us : List V} {ss : List S9} {kvs : List EnN} {s : S9} (h : StsW K P w H H' l d n m us ss kvs) (hl : H l = none) (hd : H d = none) (hs : Dp K H' (.ref b) s.d) (ho : s.Ok n m) (hn : s ∉ ss) :
    (upd H' d (dN P w d (putN kvs s.key b (.bl true)))) l = some (.lst us) ∧ TupX H' (upd (upd H' d (dN P w d (putN kvs s.key b (.bl true)))) l (.lst (us ++ [.ref b]))) ∧ StsW K P w H (upd (upd H' d (dN P w d (putN kvs s.key b (.bl true)))) l (.lst (us ++ [.ref b]))) l d n m (us ++ [.ref b]) (ss ++ [s]) (putN kvs s.key b (.bl true)) := by
  have nld : l ≠ d := fun z => by
    have := h.fl
    rw [z, h.fd] at this
    exact dN_lst (Option.some.inj this)
  have h1 : (upd H' d (dN P w d (putN kvs s.key b (.bl true)))) l = some (.lst us) := by rw [upd_ne nld]; exact h.fl
  have t : TupX H' (upd (upd H' d (dN P w d (putN kvs s.key b (.bl true)))) l (.lst (us ++ [.ref b]))) := (TupX.putN h.fd).trans (TupX.putL h1)
  refine ⟨h1, t, same_mut (same_mut h.sm hd) hl, upd_same, ?_, ?_, fun x hx => ?_, by rw [upd_ne nld.symm, upd_same], (h.kn.push (S9.keyA hs)).tupX t⟩
  · rw [List.map_append]
    exact DpAll.append (Dp.tupXs t (s9_nls ss) h.dp) (.cons (Dp.tupX t s.nl hs) .nil)
  · exact List.nodup_append.mpr ⟨h.nd, List.nodup_cons.mpr ⟨List.not_mem_nil, List.nodup_nil⟩, fun a ha c hc e => by
      rw [List.mem_singleton.mp hc] at e
      subst e
      exact hn ha⟩
  · rcases List.mem_append.mp hx with hx | hx
    · exact h.ok x hx
    · rw [List.mem_singleton.mp hx]; exact ho

theorem sc__law_states : FnScope ["rows", "modu", "found", "k", "known", "at", "state"] ["rows"] (defScope s__law_states) := ⟨rfl, rfl, rfl, by decide +kernel, rfl, by decide +kernel, by decide +kernel⟩
theorem ok__law_states (E : En K mg) (G__law_followers : Good P w K mg base CX0 2 "_law_followers" ["rows", "state", "modu"] (sp__law_followers K)) (G__law_modulus : Good P w K mg base CX0 1 "_law_modulus" ["rows"] (sp__law_modulus K)) : Good P w K mg base CX0 3 "_law_states" ["rows"] (sp__law_states K) := by
  obtain ⟨fd, F⟩ := E.says.def_ 17 (d := d__law_states) rfl
  refine ⟨fd, ?_, F.bindsN fun _ _ _ _ _ _ us hl => match us, hl with | [_], _ => rfl, F.kp, E.gl "_law_states"⟩
  refine F.ok sc__law_states (fun vs H Q E' h => ?_) (fun cdv A outer s H vs Q E' hr h => ?_)
  · obtain ⟨a, us, ls, rfl, _⟩ := h; rfl
  · have hu64 := hu64_of hr
    refine ⟨_, PSs.nox (pss_cons (ps_set (i := 1) sc__law_states.nd rfl (by first | exact Or.inl rfl | exact Or.inr rfl) (pe_G G__law_modulus (hr.mono (by decide)) rfl pass0 (pa_cons (pv 0) pa_nil)))
      (pss_cons (ps_setLc (i := 2) (own := [("k", 3)]) (by rfl) sc__law_states.nd rfl rfl (sw_true rfl rfl rfl (by decide +kernel)) (pi_range1 (by rfl) (E.fr "range") (pa_cons (pe_op op_mul (pv 1) (pv 1)) pa_nil)) (blkOk_by (N := ["rows", "modu", "found", "k", "known", "at", "state"]) (sc := defScope s__law_states) (by decide +kernel)) (by exact fun _ _ _ _ _ => (pg_name (i := 3) sc__law_states.nd rfl (by first | exact Or.inl rfl | exact Or.inr rfl))) (by exact fun _ _ _ _ _ => pts_nil) (by exact fun _ _ _ _ _ => (pe_tup (pa_cons pe_int (pa_cons (pe_tup (pa_cons pe_int (pa_cons pe_int (pa_cons pe_int pa_nil)))) (pa_cons (pe_tup (pa_cons (pe_op op_fdiv (pe_callTy call_int1 (by rfl) (E.fr "int") (by decide +kernel) (pa_cons (pv 3) pa_nil)) (pv 1)) (pa_cons (pe_op op_mod (pe_callTy call_int1 (by rfl) (E.fr "int") (by decide +kernel) (pa_cons (pv 3) pa_nil)) (pv 1)) pa_nil))) pa_nil))))))
      (pss_cons (ps_par (i := 4) (j := 5) rfl sc__law_states.nd rfl rfl (by decide) rfl rfl (pa_cons (pe_callTy (show CallR _ _ (rDictN P w K) from call_dictN rfl hu64) (by rfl) (E.fr "dict") (by decide +kernel) (pa_cons (pe_lc (own := [("state", 6)]) (by rfl) sc__law_states.nd (pi_list (pv 2)) (blkOk_by (N := ["rows", "modu", "found", "k", "known", "at", "state"]) (sc := defScope s__law_states) (by decide +kernel)) (by exact fun _ _ _ _ _ => (pg_name (i := 6) sc__law_states.nd rfl (by first | exact Or.inl rfl | exact Or.inr rfl))) (by exact fun _ _ _ _ _ => pts_nil) (by exact fun _ _ _ _ _ => (pe_tup (pa_cons (pv 6) (pa_cons pe_bl pa_nil))))) pa_nil)) (pa_cons pe_int pa_nil)) rfl)
      (pss_cons (ps_while PassesOwn.never (pt_cmpR op_lt (pv 5) (pe_callB call_len_seq (by rfl) (E.fr "len") (by decide +kernel) (pa_cons (pv 2) pa_nil)) (nomark _))
        (pss_cons (ps_for PassesOwn.never rfl (pi_list (pe_G G__law_followers (hr.mono (by decide)) rfl pass0 (pa_cons (pv 0) (pa_cons (pe_ix ix_list (pv 2) (pv 5) (fun _ _ => rfl)) (pa_cons (pv 1) pa_nil))))) (pg_name (i := 6) sc__law_states.nd rfl (by first | exact Or.inl rfl | exact Or.inr rfl))
        (pss_one (ps_if (pt_cmp (show PC _ _ _ _ (tDInN P w K true _ _) from pc_dnotinN hu64 (pv 6) (pv 4)))
        (pss_cons (show PS _ _ (sDPutN P w K _ _ _) from ps_dputN hu64 (pv 4) (pv 6) pe_bl rfl)
      (pss_one (ps_expr (pe_bm PySem.F.plainAttrs_list PySem.F.slot_list_append PySem.F.type_list_append mt_append (pv 2) (pa_cons (pv 6) pa_nil)))))
        pss_nil)))
      (pss_one (ps_set (i := 5) sc__law_states.nd rfl (by first | exact Or.inl rfl | exact Or.inr rfl) (pe_op op_add (pv 5) pe_int)))))
      (pss_one (ps_ret (pv 2))))))), ?_⟩
    obtain ⟨a, us0, ls, rfl, hL, hA, hok, hn0, hn, k⟩ := h
    have z2 : 2 ≤ sizeLine := by decide
    have z3 : 3 ≤ sizeLine := by decide
    -- modu
    refine ⟨_, rfl, a, us0, ls, ls.length, rfl, hL, hA, hok, fun m hm => ?_⟩
    have m0 : 0 < m := by omega
    have m6 : m ≤ 6 := by omega
    -- found
    refine ⟨_, rfl, _, rfl, _, _, rfl, rfl, .inl ⟨by omega, by omega⟩, ((m * m : Nat) : Int), rfl, (by have : m * m ≤ 6 * 6 := Nat.mul_le_mul m6 m6; omega), (by have : m * m ≤ 6 * 6 := Nat.mul_le_mul m6 m6; omega), fun l hl => ?_⟩
    have hmm : m * m ≤ 36 := Nat.mul_le_mul m6 m6
    refine lc_range (n := m * m) (fun i H' => Same H H' ∧ ∃ us : List V, H' l = some (.lst us) ∧ DpAll K H' us (((List.range i).map (st0 m)).map S9.d)) ⟨same_new hl, [], upd_same, .nil⟩ ?_ ?_
    · rintro i H1 hi ⟨e1, us, hU, hD⟩
      refine ⟨rfl, z3, fun p1 hp1 => ?_⟩
      have f1 := same_new (o := .tup [V.int 0, .int 0, .int 0]) hp1
      refine ⟨_, rfl, .inl ⟨_, rfl, _, rfl, _, _, rfl, rfl, ⟨by omega, by omega⟩, _, rfl, .inl ⟨_, rfl, _, rfl, _, _, rfl, rfl, (by show (0 : Int) < (m : Int); omega), z2, fun p2 hp2 => ⟨z3, fun p3 hp3 => ?_⟩⟩⟩⟩
      have ei : (0 : Int) + (i : Int) = (i : Int) := Int.zero_add _
      rw [ei] at hp3 ⊢
      have f2 := same_new (o := .tup [V.int ((i : Int) / (m : Int)), .int ((i : Int) % (m : Int))]) hp2
      have f3 := same_new (o := .tup [V.int 0, .ref p1, .ref p2]) hp3
      have new : Dp K (upd (upd (upd H1 p1 (.tup [V.int 0, .int 0, .int 0])) p2 (.tup [V.int ((i : Int) / (m : Int)), .int ((i : Int) % (m : Int))])) p3 (.tup [V.int 0, .ref p1, .ref p2])) (.ref p3) (st0 m i).d :=
        .tup (SqT.of upd_same) (.cons (.int _) (.cons (.tup (SqT.of ((f2.trans f3) _ _ upd_same)) (.cons (.int _) (.cons (.int _) (.cons (.int _) .nil)))) (.cons (.tup (SqT.of (f3 _ _ upd_same)) (.cons (.int _) (.cons (.int _) .nil))) .nil)))
      have e13 := f1.trans (f2.trans f3)
      have ul : us.length = i := by
        have := DpAll.length hD
        rw [List.length_map, List.length_map, List.length_range] at this
        exact this
      refine ⟨us, e13 _ _ hU, szl (by omega), same_mut (e1.trans e13) hl, us ++ [.ref p3], upd_same, ?_⟩
      refine Dp.tupXs (.putL (e13 _ _ hU)) (s9_nls _) ?_
      rw [List.range_succ, List.map_append, List.map_append]
      exact DpAll.append (Dp.sameAll e13 hD) (.cons new .nil)
    rintro H1 ⟨e1, us, hU, hD⟩
    obtain ⟨as, rfl, hal, hkey⟩ := refs_of hD
    have lss : ((List.range (m * m)).map (st0 m)).length = m * m := by rw [List.length_map, List.length_range]
    rw [lss] at hal
    -- known, at
    refine ⟨_, rfl, l, rfl, ⟨_, SqL.of hU⟩, fun D hD0 => ?_⟩
    have hDl : D ≠ l := fun z => by rw [z, hU] at hD0; cases hD0
    refine lc_list (K := K) (a := l) (xs := as.map V.ref) (fun i H' => Same H1 H' ∧ ∃ ts : List Addr, H' D = some (.lst (ts.map V.ref)) ∧ ts.length = i ∧ ∀ (j : Nat) t, ts[j]? = some t → ∃ z, (as.map V.ref)[j]? = some z ∧ H' t = some (.tup [z, .bl true])) ⟨same_new hD0, [], upd_same, rfl, fun j t h => by cases h⟩ (fun _ H' _ q => SqL.of (q.1 _ _ hU)) ?_ ?_
    · rintro i z H2 hz ⟨e2, ts, hT, htl, hts⟩
      refine ⟨rfl, _, rfl, z2, fun t ht => ?_⟩
      have f1 := same_new (o := .tup [z, V.bl true]) ht
      have hT1 := f1 _ _ hT
      have hi : i < as.length := by
        have := (List.getElem?_eq_some_iff.mp hz).1
        rw [List.length_map] at this
        exact this
      have tp := TupX.putL (o := .lst ((ts ++ [t]).map V.ref)) hT1
      refine ⟨_, hT1, by rw [List.length_map]; exact szl (by omega), ?_, ts ++ [t], ?_, by rw [List.length_append, htl]; rfl, fun j t' hj => ?_⟩
      · exact same_mut (e2.trans f1) hD0
      · rw [upd_same, List.map_append]
        rfl
      · have hh : (upd H2 t (.tup [z, V.bl true])) t = some (.tup [z, V.bl true]) := upd_same
        rw [List.map_append] at tp
        by_cases c : j < ts.length
        · rw [List.getElem?_append_left c] at hj
          obtain ⟨y, h1, h2⟩ := hts j t' hj
          exact ⟨y, h1, tp _ _ (f1 _ _ h2) trivial⟩
        · have hj2 := (List.getElem?_eq_some_iff.mp hj).1
          rw [List.length_append] at hj2
          have ej : j = ts.length := by
            have : ([t] : List Addr).length = 1 := rfl
            omega
          subst ej
          rw [List.getElem?_append_right (Nat.le_refl _), Nat.sub_self] at hj
          cases hj
          rw [htl]
          exact ⟨z, hz, tp _ _ hh trivial⟩
    rintro H2 ⟨e2, ts, hT, htl, hts⟩
    rw [List.length_map] at htl
    have hkey2 : ∀ q ∈ ((List.range (m * m)).map (st0 m)).zip as, KeyA K H2 q.1.key q.2 := fun q hq => (hkey q hq).tupX (.of e2)
    refine ⟨D, ts, (((List.range (m * m)).map (st0 m)).zip as).map fun q => (q.1.key, q.2, V.bl true), rfl, SqL.of hT, paired_of ?_ (fun j t p ht hp => ?_), fun p hp => ?_, fun d hd => ?_⟩
    · rw [List.length_map, List.length_zip, lss, hal, Nat.min_self]
      omega
    · obtain ⟨z, h1, h2⟩ := hts j t ht
      rw [List.getElem?_map] at h1 hp
      obtain ⟨q, hq, rfl⟩ := Option.map_eq_some_iff.mp hp
      obtain ⟨a', ha', rfl⟩ := Option.map_eq_some_iff.mp h1
      have hq2 := List.getElem?_zip_eq_some.mp hq
      rw [hq2.2] at ha'
      cases ha'
      exact SqT.of h2
    · obtain ⟨q, hq, rfl⟩ := List.mem_map.mp hp
      exact hkey2 q hq
    have f3 := same_new (o := dN P w d (mergeN [] ((((List.range (m * m)).map (st0 m)).zip as).map fun q => (q.1.key, q.2, V.bl true)))) hd
    have kn0 : Knw K H2 [] [] := ⟨fun p hp => absurd hp List.not_mem_nil, fun s => rfl, Nat.le_refl _⟩
    have kn := Knw.merge (v := V.bl true) (((List.range (m * m)).map (st0 m)).zip as) kn0 hkey2
    rw [List.map_fst_zip (by omega), List.nil_append] at kn
    have e12 := e2.trans f3
    have W0 : StsW K P w H (upd H2 d (dN P w d (mergeN [] ((((List.range (m * m)).map (st0 m)).zip as).map fun q => (q.1.key, q.2, V.bl true))))) l d ls.length m (as.map V.ref) ((List.range (m * m)).map (st0 m)) (mergeN [] ((((List.range (m * m)).map (st0 m)).zip as).map fun q => (q.1.key, q.2, V.bl true))) := by
      refine ⟨e1.trans e12, e12 _ _ hU, Dp.sameAll e12 hD, st0_nodup m0 _, fun s hs => ?_, upd_same, kn.tupX (.of f3)⟩
      obtain ⟨i, hi, rfl⟩ := List.mem_map.mp hs
      have hi := List.mem_range.mp hi
      exact ⟨hn0, rfl, fun v hv => by
        have hv : v ∈ [0, 0, 0] := hv
        simp at hv
        omega, Nat.div_lt_of_lt_mul hi, Nat.mod_lt _ m0⟩
    have hdH : H d = none := by
      cases q : H d with
      | none => rfl
      | some o =>
        rw [(e1.trans e2) _ _ q] at hd
        cases hd
    generalize mergeN [] ((((List.range (m * m)).map (st0 m)).zip as).map fun q => (q.1.key, q.2, V.bl true)) = kvs0 at *
    generalize (List.range (m * m)).map (st0 m) = ss0 at *
    generalize upd H2 d (dN P w d kvs0) = H3 at *
    clear kn kn0 hkey2 hkey hts hT hD hU e12 f3 hd e2 e1 hD0 htl hDl
    generalize as.map V.ref = us at *
    -- while at < len(found)
    refine ⟨_, _, rfl, ?_⟩
    refine ⟨fun μ σ H' => ∃ (i : Nat) (us : List V) (ss : List S9) (kvs : List EnN) (s6 : Option V), μ = ls.length * 2304 - i ∧ i ≤ ss.length ∧ σ = [some (.ref a), some (.int (m : Int)), some (.ref l), none, some (.ref d), some (.int (i : Int)), s6] ∧ StsW K P w H H' l d ls.length m us ss kvs, ⟨ls.length * 2304, 0, us, ss0, kvs0, _, rfl, Nat.zero_le _, rfl, W0⟩, ?_⟩
    rintro μ σ H4 ⟨i, us, ss, kvs, s6, rfl, hi, rfl, W⟩
    obtain ⟨ul, sl⟩ := W.len m6
    refine ⟨_, rfl, _, rfl, l, _, rfl, .inl (SqL.of W.fl), _, _, rfl, rfl, _, rfl, ?_⟩
    by_cases c : i < us.length
    rotate_left
    · exact ite_f (decide_eq_false (by omega)) ⟨_, rfl, k l us ss H4 W.sm W.fl W.dp⟩
    refine ite_t (decide_eq_true (by omega)) ⟨fun σ' H'' => ∃ μ', μ' < ls.length * 2304 - i ∧ ∃ (i : Nat) (us : List V) (ss : List S9) (kvs : List EnN) (s6 : Option V), μ' = ls.length * 2304 - i ∧ i ≤ ss.length ∧ σ' = [some (.ref a), some (.int (m : Int)), some (.ref l), none, some (.ref d), some (.int (i : Int)), s6] ∧ StsW K P w H H'' l d ls.length m us ss kvs, fun _ _ q => q, ?_⟩
    -- for state in _law_followers(rows, found[at], modu)
    have hz : us[i]? = some us[i] := List.getElem?_eq_getElem c
    obtain ⟨dd, hdd, hv⟩ := DpAll.get W.dp hz
    rw [List.getElem?_map] at hdd
    obtain ⟨s, hs, rfl⟩ := Option.map_eq_some_iff.mp hdd
    refine ⟨_, rfl, _, rfl, _, rfl, l, _, _, _, rfl, rfl, SqL.of W.fl, atI_nat hz, _, rfl, a, us0, ls, us[i], s, m, rfl, Same.seq W.sm hL, Dp.sameAll W.sm hA, hok, by omega, hv, W.ok s (List.mem_of_getElem? hs), m0, m6, fun fl ws fs H5 e5 hfn hF hFd hFo hFl => ?_⟩
    have W5 := W.grow e5
    refine ⟨fl, rfl, ⟨_, SqL.of hF⟩, ?_⟩
    have fws := DpAll.length hFd
    rw [List.length_map] at fws
    have hfl : fl ≠ l := fun z => by rw [z, W.fl] at hfn; cases hfn
    refine for_list (K := K) (a := fl) (xs := ws) (fun j σ H' => ∃ (us' : List V) (ss' : List S9) (kvs : List EnN) (s6 : Option V), σ = [some (.ref a), some (.int (m : Int)), some (.ref l), none, some (.ref d), some (.int (i : Int)), s6] ∧ i < ss'.length ∧ TupX H5 H' ∧ H' fl = some (.lst ws) ∧ StsW K P w H H' l d ls.length m us' ss' kvs) ⟨us, ss, kvs, s6, rfl, by omega, TupX.refl _, hF, W5⟩ (fun _ σ H' _ ⟨_, _, _, _, _, _, _, h, _⟩ => SqL.of h) ?_ ?_
    · rintro j z σ H6 hz ⟨us', ss', kvs', s6, rfl, hi6, t6, hF6, W6⟩
      obtain ⟨dd, hdd, hv6⟩ := DpAll.get hFd hz
      rw [List.getElem?_map] at hdd
      obtain ⟨s', hs', rfl⟩ := Option.map_eq_some_iff.mp hdd
      have hv6 := Dp.tupX t6 s'.nl hv6
      obtain ⟨b, rfl⟩ := S9.at_ref hv6
      obtain ⟨ul6, sl6⟩ := W6.len m6
      have kl := W6.kn.len
      refine ⟨_, rfl, _, rfl, d, b, kvs', s'.key, rfl, rfl, W6.fd, W6.kn.at_, S9.keyA hv6, _, rfl, ?_⟩
      rw [if_pos rfl, W6.kn.has]
      by_cases hm' : s' ∈ ss'
      · rw [decide_eq_true hm']
        exact ite_f rfl ⟨us', ss', kvs', _, rfl, hi6, t6, hF6, W6⟩
      rw [decide_eq_false hm']
      obtain ⟨p1, p2, p3⟩ := W6.push hl hdH hv6 (hFo s' (List.mem_of_getElem? hs')) hm'
      have nfd : fl ≠ d := fun z => by
        rw [z, W6.fd] at hF6
        exact dN_lst (Option.some.inj hF6)
      refine ite_t rfl ⟨_, rfl, _, rfl, d, b, kvs', s'.key, rfl, rfl, W6.fd, W6.kn.at_, S9.keyA hv6, szl (by omega), ?_⟩
      refine ⟨_, rfl, .inl ⟨rfl, _, SqL.of p1⟩, _, rfl, l, us', _, rfl, rfl, p1, szl (by omega), ?_⟩
      exact ⟨_, _, _, _, rfl, by rw [List.length_append]; omega, t6.trans p2, by rw [upd_ne hfl, upd_ne nfd]; exact hF6, p3⟩
    rintro σ H6 ⟨us', ss', kvs', s6, rfl, hi6, t6, hF6, W6⟩
    obtain ⟨ul6, sl6⟩ := W6.len m6
    refine ⟨_, rfl, _, _, rfl, rfl, _, ?_, i + 1, us', ss', kvs', _, rfl, by omega, rfl, W6⟩
    omega

/-! ### _law_pull -/
/-- a draw: some number from 0 on and below the amount; the bag alone has changed -/
def sp__law_pull (K : PySem.W.Frag) : Sp := fun vs H Q _ => ∃ (b : Addr) (n : Int), vs = [.ref b, .int n] ∧ Bag H b ∧ 0 < n ∧ n < 1298074214633706907132624082305024 ∧ ∀ (r : Int) (H' : Hp), 0 ≤ r → r < n → Bag H' b → Kp b H H' → Q (.int r) H'
theorem at4_0 (a b c d : V) : atI [a, b, c, d] 0 = some a := rfl
theorem at4_1 (a b c d : V) : atI [a, b, c, d] 1 = some b := rfl
theorem at4_2 (a b c d : V) : atI [a, b, c, d] 2 = some c := rfl
theorem at4_3 (a b c d : V) : atI [a, b, c, d] 3 = some d := rfl
/-- the bag behind the first if -/
def pullMid (b : Addr) (n : Int) (H : Hp) : L2.St → Hp → Prop := fun σ H' => Bag H' b ∧ Kp b H H' ∧ ∃ v, σ = [some (.ref b), some (.int n), v, none, none]
theorem bag_put {H : Hp} {b c : Addr} {xs : List Int} {i hold seed : Int} {o : HO} (h : o = .lst [.ref c, .int i, .int hold, .int seed]) (h2 : H c = some (.lst (xs.map V.int))) (ne : b ≠ c) (h3 : xs.length ≤ 63) (h4 : 0 ≤ i) (h5 : 0 ≤ hold) (h6 : 0 ≤ seed) (h7 : seed < 2147483647) : Bag (upd H b o) b :=
  ⟨c, xs, i, hold, seed, by rw [upd_same, h], by rw [upd_ne ne.symm]; exact h2, ne, h3, h4, h5, h6, h7⟩

theorem sc__law_pull : FnScope ["bag", "amount", "cell", "got", "seed"] ["bag", "amount"] (defScope s__law_pull) := ⟨rfl, rfl, rfl, by decide +kernel, rfl, by decide +kernel, by decide +kernel⟩
theorem ok__law_pull (E : En K mg) : Good P w K mg base CX0 1 "_law_pull" ["bag", "amount"] (sp__law_pull K) := by
  obtain ⟨fd, F⟩ := E.says.def_ 18 (d := d__law_pull) rfl
  refine ⟨fd, ?_, F.bindsN fun _ _ _ _ _ _ us hl => match us, hl with | [_, _], _ => rfl, F.kp, E.gl "_law_pull"⟩
  refine F.ok sc__law_pull (fun vs H Q E' h => ?_) (fun cdv A outer s H vs Q E' hr h => ?_)
  · obtain ⟨b, n, rfl, _⟩ := h; rfl
  · have hu64 := hu64_of hr
    refine ⟨_, PSs.nox (C8.pss_cut (ps_if (PW.pt (pw_and (pt_cmpR op_eq (pe_ix ix_list (pv 0) pe_int (fun _ _ => rfl)) pe_int (nomark _)) (pw_and1 (pt_cmpR op_lt (pe_ix ix_list (pv 0) pe_int (fun _ _ => rfl)) (pe_callB call_len_seq (by rfl) (E.fr "len") (by decide +kernel) (pa_cons (pe_ix ix_list (pv 0) pe_int (fun _ _ => rfl)) pa_nil)) (nomark _)))))
        (pss_cons (ps_set (i := 2) sc__law_pull.nd rfl (by first | exact Or.inl rfl | exact Or.inr rfl) (pe_ix ix_list (pe_ix ix_list (pv 0) pe_int (fun _ _ => rfl)) (pe_ix ix_list (pv 0) pe_int (fun _ _ => rfl)) (fun _ _ => rfl)))
      (pss_cons (ps_asg (pe_op op_add (pe_ix ix_list (pv 0) pe_int (fun _ _ => rfl)) pe_int) (pg_sub (pv 0) pe_int set_list))
      (pss_one (ps_if (pt_cmpR op_ge (pv 2) (pe_op op_pow pe_int pe_int) (nomark _))
        (pss_one (ps_asg (pv 2) (pg_sub (pv 0) pe_int set_list)))
        (pss_one (ps_asg (pe_op op_mod (pe_callTy call_int1 (by rfl) (E.fr "int") (by decide +kernel) (pa_cons (pe_op op_add (pe_op op_add (pe_op op_mul (pe_ix ix_list (pv 0) pe_int (fun _ _ => rfl)) pe_int) (pe_op op_mul (pe_op op_mod (pe_callTy call_int1 (by rfl) (E.fr "int") (by decide +kernel) (pa_cons (pv 2) pa_nil)) pe_int) pe_int)) pe_int) pa_nil)) pe_int) (pg_sub (pv 0) pe_int set_list)))))))
        pss_nil)
      (pss_cons (ps_if (pt_cmpR op_gt (pe_ix ix_list (pv 0) pe_int (fun _ _ => rfl)) pe_int (nomark _))
        (pss_cons (ps_set (i := 3) sc__law_pull.nd rfl (by first | exact Or.inl rfl | exact Or.inr rfl) (pe_op op_mod (pe_callTy call_int1 (by rfl) (E.fr "int") (by decide +kernel) (pa_cons (pe_ix ix_list (pv 0) pe_int (fun _ _ => rfl)) pa_nil)) (pv 1)))
      (pss_cons (ps_asg (pe_op op_fdivW (pe_ix ix_list (pv 0) pe_int (fun _ _ => rfl)) (pv 1)) (pg_sub (pv 0) pe_int set_list))
      (pss_one (ps_ret (pv 3)))))
        pss_nil)
      (pss_cons (ps_set (i := 4) sc__law_pull.nd rfl (by first | exact Or.inl rfl | exact Or.inr rfl) (pe_ix ix_list (pv 0) pe_int (fun _ _ => rfl)))
      (pss_cons (ps_asg (pe_op op_mod (pe_callTy call_int1 (by rfl) (E.fr "int") (by decide +kernel) (pa_cons (pe_op op_add (pe_op op_add (pe_op op_mul (pv 4) (pv 4)) (pe_op op_mul (pv 4) pe_int)) pe_int) pa_nil)) pe_int) (pg_sub (pv 0) pe_int set_list))
      (pss_one (ps_ret (pe_op op_mod (pe_callTy call_int1 (by rfl) (E.fr "int") (by decide +kernel) (pa_cons (pe_op op_add (pe_op op_fdiv (pe_ix ix_list (pv 0) pe_int (fun _ _ => rfl)) pe_int) (pe_op op_mul (pe_op op_mod (pe_callTy call_int1 (by rfl) (E.fr "int") (by decide +kernel) (pa_cons (pe_ix ix_list (pv 0) pe_int (fun _ _ => rfl)) pa_nil)) pe_int) pe_int)) pa_nil)) (pv 1)))))))), ?_⟩
    obtain ⟨b, n, rfl, B, hn, hn2, k⟩ := h
    refine ⟨pullMid b n H, ?_, ?_⟩
    · obtain ⟨c, xs, i, hold, seed, h1, h2, ne, h3, h4, h5, h6, h7⟩ := B.ex
      refine ⟨_, rfl, b, _, _, _, rfl, rfl, SqL.of h1, at4_2 _ _ _ _, rfl, _, rfl, ?_⟩
      by_cases c0 : hold = 0
      · subst c0
        refine ite_t (deq rfl) ?_
        refine ⟨_, rfl, b, _, _, _, rfl, rfl, SqL.of h1, at4_1 _ _ _ _, _, rfl, b, _, _, _, rfl, rfl, SqL.of h1, at4_0 _ _ _ _, c, _, rfl, .inl (SqL.of h2), _, _, rfl, rfl, _, rfl, ?_⟩
        refine ite2 (fun cl => ?_) (fun _ => ⟨B, Kp.refl _ _, _, rfl⟩)
        have cl' : i < ((xs.map V.int).length : Int) := of_decide_eq_true cl
        rw [List.length_map] at cl'
        have hi : i.toNat < xs.length := by omega
        have ei : ((i.toNat : Nat) : Int) = i := by omega
        have ha : atI (xs.map V.int) i = some (.int xs[i.toNat]) := by
          have q : atI (xs.map V.int) ((i.toNat : Nat) : Int) = some (.int xs[i.toNat]) := atI_nat (by rw [List.getElem?_map, List.getElem?_eq_getElem hi] <;> rfl)
          rw [ei] at q
          exact q
        -- cell = bag[0][bag[1]]
        refine ⟨_, rfl, b, _, _, _, rfl, rfl, SqL.of h1, at4_0 _ _ _ _, _, rfl, b, _, _, _, rfl, rfl, SqL.of h1, at4_1 _ _ _ _, c, _, _, _, rfl, rfl, SqL.of h2, ha, ?_⟩
        -- bag[1] = bag[1] + 1
        refine ⟨_, rfl, b, _, _, _, rfl, rfl, SqL.of h1, at4_1 _ _ _ _, _, _, rfl, rfl, _, rfl, b, _, _, 1, rfl, rfl, h1, rfl, ?_⟩
        have g1 : (upd H b (.lst [.ref c, .int (i + 1), .int 0, .int seed])) b = some (.lst [.ref c, .int (i + 1), .int 0, .int seed]) := upd_same
        have g2 : (upd H b (.lst [.ref c, .int (i + 1), .int 0, .int seed])) c = some (.lst (xs.map V.int)) := by rw [upd_ne ne.symm]; exact h2
        -- if cell >= 10 ** 18
        refine ⟨_, rfl, _, _, rfl, rfl, ⟨by decide, by decide, by decide⟩, _, _, rfl, rfl, _, rfl, ?_⟩
        refine ite2 (fun cc => ?_) (fun _ => ?_)
        · have cc' : (10 : Int) ^ (18 : Int).toNat ≤ xs[i.toNat] := of_decide_eq_true cc
          have c0 : 0 ≤ xs[i.toNat] := Int.le_trans (by decide) cc'
          refine ⟨_, rfl, _, rfl, b, _, _, 2, rfl, rfl, g1, rfl, ?_⟩
          exact ⟨bag_put rfl g2 ne h3 (by omega) c0 h6 h7, (Kp.put h1).trans (Kp.put g1), _, rfl⟩
        · refine ⟨_, rfl, b, _, _, _, rfl, rfl, SqL.of g1, at4_3 _ _ _ _, _, _, rfl, rfl, .inr ⟨by decide, by decide⟩, _, rfl, .inl ⟨_, rfl, _, _, rfl, rfl, (by show (0 : Int) < _; decide), _, _, rfl, rfl, .inr ⟨by decide, by decide⟩, _, _, rfl, rfl, _, _, rfl, rfl, .inl ⟨_, rfl, _, _, rfl, rfl, (by show (0 : Int) < _; decide), ?_⟩⟩⟩
          refine ⟨_, rfl, b, _, _, 3, rfl, rfl, g1, rfl, ?_⟩
          have q := emod_bd (seed * 40699 + xs[i.toNat] % 2147483587 * 69691 + 13) (m := 2147483647) (by decide)
          exact ⟨bag_put rfl g2 ne h3 (by omega) (by decide) q.1 q.2, (Kp.put h1).trans (Kp.put g1), _, rfl⟩
      · exact ite_f (dne c0) (ite_f rfl ⟨B, Kp.refl _ _, _, rfl⟩)
    · rintro σ H1 ⟨B1, kp, v, rfl⟩
      obtain ⟨c, xs, i, hold, seed, h1, h2, ne, h3, h4, h5, h6, h7⟩ := B1.ex
      refine ⟨_, rfl, b, _, _, _, rfl, rfl, SqL.of h1, at4_2 _ _ _ _, _, _, rfl, rfl, _, rfl, ?_⟩
      refine ite2 (fun _ => ?_) (fun _ => ?_)
      · -- got = int(bag[2]) % amount; bag[2] = bag[2] // amount; return got
        refine ⟨_, rfl, b, _, _, _, rfl, rfl, SqL.of h1, at4_2 _ _ _ _, .inl ⟨_, rfl, _, rfl, _, _, rfl, rfl, hn, ?_⟩⟩
        refine ⟨_, rfl, b, _, _, _, rfl, rfl, SqL.of h1, at4_2 _ _ _ _, _, rfl, _, _, rfl, rfl, wide_div hn (b := 110) (by omega) (by decide) (by decide), _, rfl, b, _, _, 2, rfl, rfl, h1, rfl, _, rfl, ?_⟩
        have q := emod_bd hold (m := n) hn
        exact k _ _ q.1 q.2 (bag_put rfl h2 ne h3 h4 (Int.ediv_nonneg h5 (by omega)) h6 h7) (kp.trans (Kp.put h1))
      · -- seed = bag[3]
        refine ⟨_, rfl, b, _, _, _, rfl, rfl, SqL.of h1, at4_3 _ _ _ _, ?_⟩
        refine ⟨_, rfl, _, rfl, _, _, rfl, rfl, .inr ⟨by omega, by omega⟩, _, rfl, _, _, rfl, rfl, .inr ⟨by decide, by decide⟩, _, _, rfl, rfl, _, _, rfl, rfl, .inl ⟨_, rfl, _, _, rfl, rfl, (by show (0 : Int) < _; decide), _, rfl, b, _, _, 3, rfl, rfl, h1, rfl, ?_⟩⟩
        have g1 : ∀ z : Int, (upd H1 b (.lst [.ref c, .int i, .int hold, .int z])) b = some (.lst [.ref c, .int i, .int hold, .int z]) := fun _ => upd_same
        refine ⟨_, rfl, b, _, _, _, rfl, rfl, SqL.of (g1 _), at4_3 _ _ _ _, _, _, rfl, rfl, ⟨by decide, by decide⟩, _, rfl, b, _, _, _, rfl, rfl, SqL.of (g1 _), at4_3 _ _ _ _, .inl ⟨_, rfl, _, _, rfl, rfl, (by show (0 : Int) < _; decide), _, _, rfl, rfl, .inr ⟨by decide, by decide⟩, _, _, rfl, rfl, .inl ⟨_, rfl, _, rfl, _, _, rfl, rfl, hn, ?_⟩⟩⟩
        have q := emod_bd (seed * seed + seed * 48271 + 1013904227) (m := 2147483647) (by decide)
        have r := emod_bd ((seed * seed + seed * 48271 + 1013904227) % 2147483647 / 97 + (seed * seed + seed * 48271 + 1013904227) % 2147483647 % 8191 * 67) (m := n) hn
        exact k _ _ r.1 r.2 (bag_put rfl h2 ne h3 h4 h5 q.1 q.2) (kp.trans (Kp.put h1))

/-! ### _law_test -/
/-- some test -/
def sp__law_test (K : PySem.W.Frag) : Sp := fun vs H Q _ => ∃ (b : Addr) (r : Bool), vs = [.ref b, .bl r] ∧ Bag H b ∧ ∀ (v : V) (t : Tst) (H' : Hp), Dp K H' v t.d → t.Ok → Bag H' b → Kp b H H' → Q v H'
theorem pickAx {r : Int} (h0 : 0 ≤ r) (h1 : r < 2) : ∃ w, atI [V.str "x", V.str "y"] r = some (.str (axS w)) := by
  have : r = 0 ∨ r = 1 := by omega
  rcases this with rfl | rfl
  · exact ⟨true, rfl⟩
  · exact ⟨false, rfl⟩
theorem pickV {r : Int} (h0 : 0 ≤ r) (h1 : r < 3) : ∃ v : V3, atI [V.str "a", V.str "b", V.str "c"] r = some (.str v.s) := by
  have : r = 0 ∨ r = 1 ∨ r = 2 := by omega
  rcases this with rfl | rfl | rfl
  · exact ⟨.a, rfl⟩
  · exact ⟨.b, rfl⟩
  · exact ⟨.c, rfl⟩
theorem pickO {r : Int} (h0 : 0 ≤ r) (h1 : r < 2) : ∃ o : O3, atI [V.str "equal", V.str "more"] r = some (.str o.s) := by
  have : r = 0 ∨ r = 1 := by omega
  rcases this with rfl | rfl
  · exact ⟨.equal, rfl⟩
  · exact ⟨.more, rfl⟩

theorem sc__law_test : FnScope ["bag", "rests", "kind", "axis", "size"] ["bag", "rests"] (defScope s__law_test) := ⟨rfl, rfl, rfl, by decide +kernel, rfl, by decide +kernel, by decide +kernel⟩
theorem ok__law_test (E : En K mg) (G__law_pull : Good P w K mg base CX0 1 "_law_pull" ["bag", "amount"] (sp__law_pull K)) : Good P w K mg base CX0 2 "_law_test" ["bag", "rests"] (sp__law_test K) := by
  obtain ⟨fd, F⟩ := E.says.def_ 19 (d := d__law_test) rfl
  refine ⟨fd, ?_, F.bindsN fun _ _ _ _ _ _ us hl => match us, hl with | [_, _], _ => rfl, F.kp, E.gl "_law_test"⟩
  refine F.ok sc__law_test (fun vs H Q E' h => ?_) (fun cdv A outer s H vs Q E' hr h => ?_)
  · obtain ⟨b, r, rfl, _⟩ := h; rfl
  · have hu64 := hu64_of hr
    refine ⟨_, PSs.nox (pss_cons (ps_set (i := 2) sc__law_test.nd rfl (by first | exact Or.inl rfl | exact Or.inr rfl) (pe_G G__law_pull (hr.mono (by decide)) rfl pass0 (pa_cons (pv 0) (pa_cons (pe_ifExp (pt_val (pv 1)) pe_int pe_int) pa_nil))))
      (pss_cons (ps_set (i := 3) sc__law_test.nd rfl (by first | exact Or.inl rfl | exact Or.inr rfl) (pe_ix ix_list (pe_lst (pa_cons pe_str (pa_cons pe_str pa_nil))) (pe_G G__law_pull (hr.mono (by decide)) rfl pass0 (pa_cons (pv 0) (pa_cons pe_int pa_nil))) (fun _ _ => rfl)))
      (pss_cons (ps_if (pt_cmpR op_lt (pv 2) pe_int (nomark _))
        (pss_one (ps_ret (pe_tup (pa_cons pe_str pa_nil))))
        pss_nil)
      (pss_cons (ps_if (pt_cmpR op_lt (pv 2) pe_int (nomark _))
        (pss_one (ps_ret (pe_tup (pa_cons (pe_ix ix_list (pe_lst (pa_cons pe_str (pa_cons pe_str pa_nil))) (pe_op op_sub (pv 2) pe_int) (fun _ _ => rfl)) pa_nil))))
        pss_nil)
      (pss_cons (ps_if (pt_cmpR op_eq (pv 2) pe_int (nomark _))
        (pss_one (ps_ret (pe_tup (pa_cons pe_str (pa_cons (pv 3) pa_nil)))))
        pss_nil)
      (pss_cons (ps_if (pt_cmpR op_lt (pv 2) pe_int (nomark _))
        (pss_one (ps_ret (pe_tup (pa_cons pe_str (pa_cons (pe_ix ix_list (pe_lst (pa_cons pe_str (pa_cons pe_str (pa_cons pe_str pa_nil)))) (pe_G G__law_pull (hr.mono (by decide)) rfl pass0 (pa_cons (pv 0) (pa_cons pe_int pa_nil))) (fun _ _ => rfl)) (pa_cons (pe_G G__law_pull (hr.mono (by decide)) rfl pass0 (pa_cons (pv 0) (pa_cons pe_int pa_nil))) pa_nil))))))
        pss_nil)
      (pss_cons (ps_set (i := 4) sc__law_test.nd rfl (by first | exact Or.inl rfl | exact Or.inr rfl) (pe_op op_add pe_int (pe_G G__law_pull (hr.mono (by decide)) rfl pass0 (pa_cons (pv 0) (pa_cons pe_int pa_nil)))))
      (pss_one (ps_ret (pe_tup (pa_cons pe_str (pa_cons (pv 3) (pa_cons (pv 4) (pa_cons (pe_G G__law_pull (hr.mono (by decide)) rfl pass0 (pa_cons (pv 0) (pa_cons (pv 4) pa_nil))) pa_nil)))))))))))))), ?_⟩
    obtain ⟨b, r, rfl, B, k⟩ := h
    have z1 : 1 ≤ sizeLine := by decide
    have z2 : 2 ≤ sizeLine := by decide
    have z3 : 3 ≤ sizeLine := by decide
    have z4 : 4 ≤ sizeLine := by decide
    have fin : ∀ (xs : List V) (t : Tst) (H' : Hp) (p : Addr), DpAll K H' xs (.str t.w :: t.ds) → t.Ok → Bag H' b → Kp b H H' → H' p = none → Q (.ref p) (upd H' p (.tup xs)) := fun xs t H' p hA ho B' k' hp =>
      k _ t _ (.tup (SqT.of upd_same) (Dp.sameAll (same_new hp) hA)) ho (B'.keep (same_new hp)) (k'.new hp)
    refine ⟨_, rfl, _, rfl, r, rfl, ?_⟩
    cases r
    rotate_left
    refine ite_t rfl ⟨b, 8, rfl, B, by decide, by decide, fun r0 H1 a0 a1 B1 k1 => ?_⟩
    rotate_left
    refine ite_f rfl ⟨b, 7, rfl, B, by decide, by decide, fun r0 H1 a0 a1 B1 k1 => ?_⟩
    all_goals
      -- axis
      refine ⟨z2, fun l hl => ⟨_, rfl, b, 2, rfl, B1.keep (same_new hl), by decide, by decide, fun r H2 ra rb B2 k2 => ?_⟩⟩
      obtain ⟨w, hw⟩ := pickAx ra rb
      refine ⟨l, _, _, _, rfl, rfl, SqL.of (k2 _ _ (B1.ne hl) upd_same), hw, ?_⟩
      have kk : Kp b H H2 := (k1.new hl).trans k2
      clear hl hw ra rb
      refine ⟨_, rfl, _, _, rfl, rfl, _, rfl, ?_⟩
      refine ite2 (fun _ => ⟨z1, fun p hp => fin [.str "less"] (.ord .less) H2 p (.cons (.str _) .nil) trivial B2 kk hp⟩) (fun c2 => ?_)
      have c2 : ¬ r0 < 2 := fun z => c2 (decide_eq_true z)
      refine ⟨_, rfl, _, _, rfl, rfl, _, rfl, ?_⟩
      by_cases c4 : r0 < 4
      · refine ite_t (decide_eq_true c4) ⟨z2, fun l3 hl3 => ?_⟩
        obtain ⟨o, ho⟩ := pickO (r := r0 - 2) (by omega) (by omega)
        refine ⟨_, rfl, _, _, rfl, rfl, l3, _, _, _, rfl, rfl, SqL.of upd_same, ho, z1, fun p hp => ?_⟩
        exact fin [.str o.s] (.ord o) _ p (.cons (.str _) .nil) trivial (B2.keep (same_new hl3)) (kk.new hl3) hp
      refine ite_f (decide_eq_false c4) ?_
      refine ⟨_, rfl, rfl, _, rfl, ?_⟩
      refine ite2 (fun _ => ⟨_, rfl, z2, fun p hp => fin [.str "zero", .str (axS w)] (.zero w) H2 p (.cons (.str _) (.cons (.str _) .nil)) trivial B2 kk hp⟩) (fun _ => ?_)
      refine ⟨_, rfl, _, _, rfl, rfl, _, rfl, ?_⟩
      refine ite2 (fun _ => ?_) (fun _ => ?_)
      · refine ⟨z3, fun l3 hl3 => ⟨_, rfl, b, 3, rfl, B2.keep (same_new hl3), by decide, by decide, fun r3 H3 ca cb B3 k3 => ?_⟩⟩
        obtain ⟨v, hv⟩ := pickV ca cb
        refine ⟨l3, _, _, _, rfl, rfl, SqL.of (k3 _ _ (B2.ne hl3) upd_same), hv, ?_⟩
        refine ⟨_, rfl, b, 4, rfl, B3, by decide, by decide, fun r4 H4 da db B4 k4 => ⟨z3, fun p hp => ?_⟩⟩
        obtain ⟨n, rfl⟩ := Int.eq_ofNat_of_zero_le da
        exact fin [.str "holds", .str v.s, .int (n : Int)] (.holds v n) H4 p (.cons (.str _) (.cons (.str _) (.cons (.int _) .nil))) (by show n ≤ 3; omega) B4 (((kk.new hl3).trans k3).trans k4) hp
      refine ⟨_, rfl, b, 2, rfl, B2, by decide, by decide, fun r3 H3 ca cb B3 k3 => ⟨_, _, rfl, rfl, ?_⟩⟩
      obtain ⟨s, hs, hs2⟩ : ∃ s : Nat, 2 + r3 = (s : Int) ∧ (s = 2 ∨ s = 3) := ⟨(2 + r3).toNat, by omega, by omega⟩
      dsimp only
      rw [hs]
      refine ⟨_, rfl, _, rfl, _, rfl, _, rfl, b, s, rfl, B3, by omega, by omega, fun r4 H4 da db B4 k4 => ⟨z4, fun p hp => ?_⟩⟩
      obtain ⟨n, rfl⟩ := Int.eq_ofNat_of_zero_le da
      exact fin [.str "rest", .str (axS w), .int (s : Int), .int (n : Int)] (.rest w s n) H4 p (.cons (.str _) (.cons (.str _) (.cons (.int _) (.cons (.int _) .nil)))) ⟨hs2, by omega⟩ B4 ((kk.trans k3).trans k4) hp

/-! ### _law_line -/
/-- some line -/
def sp__law_line (K : PySem.W.Frag) : Sp := fun vs H Q _ => ∃ (b : Addr) (n : Nat) (ks : Str), vs = [.ref b, .int (n : Int), .str ks] ∧ Bag H b ∧ n ≤ 1000 ∧ ∀ (v : V) (l : Lin) (H' : Hp), Dp K H' v l.d → l.Ok n → Bag H' b → Kp b H H' → Q v H'
theorem pickS {r : Int} (h0 : 0 ≤ r) (h1 : r < 3) : ∃ z : Str, atI [V.str "done", V.str "farthest", V.str "below"] r = some (.str z) ∧ nameB z = true ∧ z ≠ "end" := by
  have : r = 0 ∨ r = 1 ∨ r = 2 := by omega
  rcases this with rfl | rfl | rfl
  · exact ⟨_, rfl, by decide +kernel, by decide +kernel⟩
  · exact ⟨_, rfl, by decide +kernel, by decide +kernel⟩
  · exact ⟨_, rfl, by decide +kernel, by decide +kernel⟩

theorem sc__law_line : FnScope ["bag", "many", "kinds", "pick", "axis", "spot", "test"] ["bag", "many", "kinds"] (defScope s__law_line) := ⟨rfl, rfl, rfl, by decide +kernel, rfl, by decide +kernel, by decide +kernel⟩
theorem ok__law_line (E : En K mg) (G__law_pull : Good P w K mg base CX0 1 "_law_pull" ["bag", "amount"] (sp__law_pull K)) (G__law_test : Good P w K mg base CX0 2 "_law_test" ["bag", "rests"] (sp__law_test K)) : Good P w K mg base CX0 3 "_law_line" ["bag", "many", "kinds"] (sp__law_line K) := by
  obtain ⟨fd, F⟩ := E.says.def_ 20 (d := d__law_line) rfl
  refine ⟨fd, ?_, F.bindsN fun _ _ _ _ _ _ us hl => match us, hl with | [_, _, _], _ => rfl, F.kp, E.gl "_law_line"⟩
  refine F.ok sc__law_line (fun vs H Q E' h => ?_) (fun cdv A outer s H vs Q E' hr h => ?_)
  · obtain ⟨b, n, ks, rfl, _⟩ := h; rfl
  · have hu64 := hu64_of hr
    refine ⟨_, PSs.nox (pss_cons (ps_set (i := 3) sc__law_line.nd rfl (by first | exact Or.inl rfl | exact Or.inr rfl) (pe_G G__law_pull (hr.mono (by decide)) rfl pass0 (pa_cons (pv 0) (pa_cons pe_int pa_nil))))
      (pss_cons (ps_par (i := 4) (j := 5) rfl sc__law_line.nd rfl rfl (by decide) rfl rfl (pa_cons (pe_ix ix_list (pe_lst (pa_cons pe_str (pa_cons pe_str pa_nil))) (pe_G G__law_pull (hr.mono (by decide)) rfl pass0 (pa_cons (pv 0) (pa_cons pe_int pa_nil))) (fun _ _ => rfl)) (pa_cons (pe_G G__law_pull (hr.mono (by decide)) rfl pass0 (pa_cons (pv 0) (pa_cons (pe_op op_add (pv 1) pe_int) pa_nil))) pa_nil)) rfl)
      (pss_cons (ps_if (pt_cmpR op_lt (pv 3) pe_int (nomark _))
        (pss_one (ps_ret (pe_tup (pa_cons pe_str (pa_cons (pv 4) pa_nil)))))
        pss_nil)
      (pss_cons (ps_if (pt_cmpR op_lt (pv 3) pe_int (nomark _))
        (pss_one (ps_ret (pe_tup (pa_cons pe_str (pa_cons (pv 4) pa_nil)))))
        pss_nil)
      (pss_cons (ps_if (pt_cmpR op_lt (pv 3) pe_int (nomark _))
        (pss_cons (ps_set (i := 6) sc__law_line.nd rfl (by first | exact Or.inl rfl | exact Or.inr rfl) (pe_G G__law_test (hr.mono (by decide)) rfl pass0 (pa_cons (pv 0) (pa_cons (pe_cmpR op_in_sign pe_str (pv 2) (by rfl)) pa_nil))))
      (pss_one (ps_ret (pe_tup (pa_cons pe_str (pa_cons (pe_ifExp (PW.pt (pw_or (pt_cmpR op_ne (pe_ix ix_tup (pv 6) pe_int (fun _ _ => rfl)) pe_str (nomark _)) (pw_or1 (pt_cmpR op_in_sign pe_str (pv 2) (by rfl))))) (pv 6) (pe_tup (pa_cons pe_str pa_nil))) (pa_cons (pv 5) pa_nil)))))))
        pss_nil)
      (pss_cons (ps_if (pt_cmpR op_eq (pv 3) pe_int (nomark _))
        (pss_one (ps_ret (pe_ifExp (pt_cmpR op_in_sign pe_str (pv 2) (by rfl)) (pe_tup (pa_cons pe_str (pa_cons (pv 5) pa_nil))) (pe_tup (pa_cons pe_str (pa_cons (pv 4) pa_nil))))))
        pss_nil)
      (pss_cons (ps_if (pt_cmpR op_eq (pv 3) pe_int (nomark _))
        (pss_one (ps_ret (pe_tup (pa_cons pe_str (pa_cons (pe_ix ix_list (pe_lst (pa_cons pe_str (pa_cons pe_str (pa_cons pe_str pa_nil)))) (pe_G G__law_pull (hr.mono (by decide)) rfl pass0 (pa_cons (pv 0) (pa_cons pe_int pa_nil))) (fun _ _ => rfl)) pa_nil)))))
        pss_nil)
      (pss_cons (ps_if (PW.pt (pw_and (pt_cmpR op_eq (pv 3) pe_int (nomark _)) (pw_and1 (pt_cmpR op_in_sign pe_str (pv 2) (by rfl)))))
        (pss_one (ps_ret (pe_tup (pa_cons pe_str (pa_cons (pe_ix ix_list (pe_lst (pa_cons pe_str (pa_cons pe_str (pa_cons pe_str pa_nil)))) (pe_G G__law_pull (hr.mono (by decide)) rfl pass0 (pa_cons (pv 0) (pa_cons pe_int pa_nil))) (fun _ _ => rfl)) (pa_cons (pe_G G__law_pull (hr.mono (by decide)) rfl pass0 (pa_cons (pv 0) (pa_cons pe_int pa_nil))) pa_nil))))))
        pss_nil)
      (pss_one (ps_ret (pe_tup (pa_cons pe_str (pa_cons (pv 5) pa_nil))))))))))))), ?_⟩
    obtain ⟨b, n, ks, rfl, B, hn, k⟩ := h
    have z1 : 1 ≤ sizeLine := by decide
    have z2 : 2 ≤ sizeLine := by decide
    have z3 : 3 ≤ sizeLine := by decide
    have fin : ∀ (xs : List V) (l : Lin) (H' : Hp) (p : Addr), DpAll K H' xs (.str l.w :: l.ds) → l.Ok n → Bag H' b → Kp b H H' → H' p = none → Q (.ref p) (upd H' p (.tup xs)) := fun xs l H' p hA ho B' k' hp =>
      k _ l _ (.tup (SqT.of upd_same) (Dp.sameAll (same_new hp) hA)) ho (B'.keep (same_new hp)) (k'.new hp)
    refine ⟨_, rfl, b, 12, rfl, B, by decide, by decide, fun r0 H1 a0 a1 B1 k1 => ?_⟩
    -- axis, spot
    refine ⟨z2, fun l hl => ⟨_, rfl, b, 2, rfl, B1.keep (same_new hl), by decide, by decide, fun r H2 ra rb B2 k2 => ?_⟩⟩
    obtain ⟨w, hw⟩ := pickAx ra rb
    refine ⟨l, _, _, _, rfl, rfl, SqL.of (k2 _ _ (B1.ne hl) upd_same), hw, ?_⟩
    have kk : Kp b H H2 := (k1.new hl).trans k2
    clear hl hw ra rb k1 k2
    refine ⟨_, rfl, _, rfl, _, _, rfl, rfl, b, (n : Int) + 1, rfl, B2, by omega, by omega, fun r2 H3 sa sb B3 k3 => ⟨_, _, rfl, ?_⟩⟩
    obtain ⟨sp, rfl⟩ := Int.eq_ofNat_of_zero_le sa
    have hsp : sp ≤ n := by omega
    have kk := kk.trans k3
    clear sa sb k3
    refine ⟨_, rfl, _, _, rfl, rfl, _, rfl, ?_⟩
    refine ite2 (fun _ => ⟨_, rfl, z2, fun p hp => fin [.str "add", .str (axS w)] (.add w) H3 p (.cons (.str _) (.cons (.str _) .nil)) trivial B3 kk hp⟩) (fun _ => ?_)
    refine ⟨_, rfl, _, _, rfl, rfl, _, rfl, ?_⟩
    refine ite2 (fun _ => ⟨_, rfl, z2, fun p hp => fin [.str "take", .str (axS w)] (.take w) H3 p (.cons (.str _) (.cons (.str _) .nil)) trivial B3 kk hp⟩) (fun _ => ?_)
    refine ⟨_, rfl, _, _, rfl, rfl, _, rfl, ?_⟩
    refine ite2 (fun _ => ?_) (fun _ => ?_)
    · -- if
      refine ⟨_, rfl, _, rfl, 114, ks, rfl, rfl, b, _, rfl, B3, fun v t H4 hv ht B4 k4 => ?_⟩
      have kk := kk.trans k4
      obtain ⟨a, us, rfl, hS, hA⟩ := Dp.tst hv
      refine ⟨_, rfl, a, _, _, _, rfl, rfl, hS, at_0 _ _, rfl, _, rfl, ?_⟩
      have keep : ∀ p, H4 p = none → Q (.ref p) (upd H4 p (.tup [.str "if", .ref a, .int (sp : Int)])) := fun p hp => fin [.str "if", .ref a, .int (sp : Int)] (.test t sp) H4 p (.cons (.str _) (.cons hv (.cons (.int _) .nil))) ⟨ht, hsp⟩ B4 kk hp
      have drop : ∀ q, H4 q = none → ∀ p, (upd H4 q (.tup [V.str "more"])) p = none → Q (.ref p) (upd (upd H4 q (.tup [V.str "more"])) p (.tup [.str "if", .ref q, .int (sp : Int)])) := fun q hq p hp =>
        fin [.str "if", .ref q, .int (sp : Int)] (.test (.ord .more) sp) _ p (.cons (.str _) (.cons (.tup (SqT.of upd_same) (.cons (.str _) .nil)) (.cons (.int _) .nil))) ⟨trivial, hsp⟩ (B4.keep (same_new hq)) (kk.new hq) hp
      refine ite2 (fun _ => ⟨_, rfl, _, rfl, z3, keep⟩) (fun _ => ?_)
      refine ⟨_, rfl, 118, ks, rfl, rfl, _, rfl, ?_⟩
      exact ite2 (fun _ => ⟨_, rfl, _, rfl, z3, keep⟩) (fun _ => ⟨z1, fun q hq => ⟨_, rfl, z3, drop q hq⟩⟩)
    refine ⟨_, rfl, rfl, _, rfl, ?_⟩
    refine ite2 (fun _ => ?_) (fun _ => ?_)
    · refine ⟨_, rfl, 99, ks, rfl, rfl, _, rfl, ?_⟩
      exact ite2 (fun _ => ⟨_, rfl, z2, fun p hp => fin [.str "choose", .int (sp : Int)] (.choose sp) H3 p (.cons (.str _) (.cons (.int _) .nil)) hsp B3 kk hp⟩) (fun _ => ⟨_, rfl, z2, fun p hp => fin [.str "take", .str (axS w)] (.take w) H3 p (.cons (.str _) (.cons (.str _) .nil)) trivial B3 kk hp⟩)
    refine ⟨_, rfl, rfl, _, rfl, ?_⟩
    refine ite2 (fun _ => ?_) (fun _ => ?_)
    · refine ⟨z3, fun l3 hl3 => ⟨_, rfl, b, 3, rfl, B3.keep (same_new hl3), by decide, by decide, fun r3 H4 ca cb B4 k4 => ?_⟩⟩
      obtain ⟨z, hz, hz1, hz2⟩ := pickS ca cb
      refine ⟨l3, _, _, _, rfl, rfl, SqL.of (k4 _ _ (B3.ne hl3) upd_same), hz, z2, fun p hp => ?_⟩
      exact fin [.str "stop", .str z] (.stop z) H4 p (.cons (.str _) (.cons (.str _) .nil)) ⟨hz1, hz2⟩ B4 ((kk.new hl3).trans k4) hp
    have last : ∀ p, H3 p = none → Q (.ref p) (upd H3 p (.tup [.str "go", .int (sp : Int)])) := fun p hp => fin [.str "go", .int (sp : Int)] (.go sp) H3 p (.cons (.str _) (.cons (.int _) .nil)) hsp B3 kk hp
    refine ⟨_, rfl, rfl, _, rfl, ?_⟩
    refine ite2 (fun _ => ?_) (fun _ => ⟨_, rfl, z2, last⟩)
    refine ⟨_, rfl, 118, ks, rfl, rfl, _, rfl, ?_⟩
    refine ite2 (fun _ => ?_) (fun _ => ⟨_, rfl, z2, last⟩)
    refine ⟨z3, fun l3 hl3 => ⟨_, rfl, b, 3, rfl, B3.keep (same_new hl3), by decide, by decide, fun r3 H4 ca cb B4 k4 => ?_⟩⟩
    obtain ⟨v, hv⟩ := pickV ca cb
    refine ⟨l3, _, _, _, rfl, rfl, SqL.of (k4 _ _ (B3.ne hl3) upd_same), hv, ?_⟩
    refine ⟨_, rfl, b, 4, rfl, B4, by decide, by decide, fun r4 H5 da db B5 k5 => ⟨z3, fun p hp => ?_⟩⟩
    obtain ⟨m, rfl⟩ := Int.eq_ofNat_of_zero_le da
    exact fin [.str "set", .str v.s, .int (m : Int)] (.set v m) H5 p (.cons (.str _) (.cons (.str _) (.cons (.int _) .nil))) (by show m ≤ 3; omega) B5 (((kk.new hl3).trans k4).trans k5) hp

/-! ### _law_drawn -/
/-- a list of lines, no target beyond its end -/
def sp__law_drawn (K : PySem.W.Frag) : Sp := fun vs H Q _ => ∃ (b : Addr) (n : Nat) (ks : Str), vs = [.ref b, .int (n : Int), .str ks] ∧ Bag H b ∧ 0 < n ∧ n ≤ 60 ∧ ∀ (l : Addr) (us : List V) (ls : List Lin) (H' : Hp), H l = none → H' l = some (.lst us) → DpAll K H' us (ls.map Lin.d) → 0 < ls.length → ls.length ≤ n → (∀ x ∈ ls, x.Ok ls.length) → Bag H' b → Kp b H H' → Q (.ref l) H'

theorem sc__law_drawn : FnScope ["bag", "top_z", "kinds", "many", "found", "k"] ["bag", "top_z", "kinds"] (defScope s__law_drawn) := ⟨rfl, rfl, rfl, by decide +kernel, rfl, by decide +kernel, by decide +kernel⟩
theorem ok__law_drawn (E : En K mg) (G__law_line : Good P w K mg base CX0 3 "_law_line" ["bag", "many", "kinds"] (sp__law_line K)) (G__law_pull : Good P w K mg base CX0 1 "_law_pull" ["bag", "amount"] (sp__law_pull K)) : Good P w K mg base CX0 4 "_law_drawn" ["bag", "top_z", "kinds"] (sp__law_drawn K) := by
  obtain ⟨fd, F⟩ := E.says.def_ 21 (d := d__law_drawn) rfl
  refine ⟨fd, ?_, F.bindsN fun _ _ _ _ _ _ us hl => match us, hl with | [_, _, _], _ => rfl, F.kp, E.gl "_law_drawn"⟩
  refine F.ok sc__law_drawn (fun vs H Q E' h => ?_) (fun cdv A outer s H vs Q E' hr h => ?_)
  · obtain ⟨b, n, ks, rfl, _⟩ := h; rfl
  · have hu64 := hu64_of hr
    refine ⟨_, PSs.nox (pss_cons (ps_set (i := 3) sc__law_drawn.nd rfl (by first | exact Or.inl rfl | exact Or.inr rfl) (pe_op op_add pe_int (pe_G G__law_pull (hr.mono (by decide)) rfl pass0 (pa_cons (pv 0) (pa_cons (pv 1) pa_nil)))))
      (pss_cons (ps_set (i := 4) sc__law_drawn.nd rfl (by first | exact Or.inl rfl | exact Or.inr rfl) (pe_lst pa_nil))
      (pss_cons (ps_for PassesOwn.never rfl (pi_range1 (by rfl) (E.fr "range") (pa_cons (pv 3) pa_nil)) (pg_name (i := 5) sc__law_drawn.nd rfl (by first | exact Or.inl rfl | exact Or.inr rfl))
        (pss_one (ps_expr (pe_bm PySem.F.plainAttrs_list PySem.F.slot_list_append PySem.F.type_list_append mt_append (pv 4) (pa_cons (pe_G G__law_line (hr.mono (by decide)) rfl pass0 (pa_cons (pv 0) (pa_cons (pv 3) (pa_cons (pv 2) pa_nil)))) pa_nil)))))
      (pss_one (ps_ret (pv 4)))))), ?_⟩
    obtain ⟨b, n, ks, rfl, B, h0, h1, k⟩ := h
    have z0 : 0 ≤ sizeLine := by decide
    refine ⟨_, rfl, _, rfl, b, (n : Int), rfl, B, by omega, by omega, fun r0 H1 a0 a1 B1 k1 => ⟨_, _, rfl, rfl, ?_⟩⟩
    obtain ⟨m, hm, m0, m1⟩ : ∃ m : Nat, 1 + r0 = (m : Int) ∧ 0 < m ∧ m ≤ n := ⟨(1 + r0).toNat, by omega, by omega, by omega⟩
    dsimp only
    rw [hm]
    refine ⟨z0, fun l hl => ?_⟩
    have nlb : l ≠ b := B1.ne hl
    have hlH : H l = none := by
      cases q : H l with
      | none => rfl
      | some o =>
        rw [k1 _ _ nlb q] at hl
        cases hl
    obtain ⟨c0, q0, hb0, o0, hc0⟩ := B1.inn
    have ncl : c0 ≠ l := ne_of_none hc0 hl
    refine ⟨_, rfl, _, rfl, by omega, by omega, for_range (lo := 0) (n := m) (fun i σ H' => ∃ (us : List V) (ls : List Lin) (s5 : Option V), σ = [some (.ref b), some (.int (n : Int)), some (.str ks), some (.int (m : Int)), some (.ref l), s5] ∧ Bag H' b ∧ (∃ r, H' b = some (.lst (.ref c0 :: r))) ∧ Kp b H H' ∧ H' l = some (.lst us) ∧ DpAll K H' us (ls.map Lin.d) ∧ ls.length = i ∧ ∀ x ∈ ls, x.Ok m) ⟨[], [], _, rfl, B1.keep (same_new hl), ⟨q0, (same_new hl) _ _ hb0⟩, k1.new hl, upd_same, .nil, rfl, fun x hx => absurd hx List.not_mem_nil⟩ ?_ ?_⟩
    · rintro i σ H2 hi ⟨us, ls, s5, rfl, B2, ⟨q2, hb2⟩, k2, hL, hA, hlen, hok⟩
      refine ⟨_, rfl, .inl ⟨rfl, _, SqL.of hL⟩, _, rfl, _, rfl, _, rfl, b, m, ks, rfl, B2, by omega, fun v x H3 hv hx B3 k3 => ?_⟩
      have hL3 := k3 _ _ nlb hL
      obtain ⟨q3, hb3⟩ := k3.inn _ _ hb2
      have hA3 : DpAll K H3 (us ++ [v]) ((ls ++ [x]).map Lin.d) := by
        rw [List.map_append]
        exact DpAll.append (Dp.sameTs (B2.sameT k3) (lin_nls ls) hA) (.cons hv .nil)
      have ul : us.length = i := by
        have := DpAll.length hA
        rw [List.length_map] at this
        omega
      refine ⟨l, us, v, rfl, rfl, hL3, szl (by omega), us ++ [v], ls ++ [x], _, rfl, B3.other hb3 nlb ncl, ⟨q3, by rw [upd_ne nlb.symm]; exact hb3⟩, ?_, upd_same, Dp.sameTs (.put hL3) (lin_nls _) hA3, by rw [List.length_append, hlen]; rfl, fun y hy => ?_⟩
      · exact (k2.trans k3).mut hlH nlb
      · rcases List.mem_append.mp hy with hy | hy
        · exact hok y hy
        · rw [List.mem_singleton.mp hy]; exact hx
    · rintro σ H2 ⟨us, ls, s5, rfl, B2, _, k2, hL, hA, hlen, hok⟩
      exact ⟨_, rfl, k l us ls H2 hlH hL hA (by omega) (by omega) (by rw [hlen]; exact hok) B2 k2⟩

/-! ### _law_lines -/
/-- the lines of a program -/
def sp__law_lines (K : PySem.W.Frag) : Sp := fun vs H Q _ => ∃ (b : Addr) (n : Nat) (ks : Str), vs = [.ref b, .int (n : Int), .str ks] ∧ Bag H b ∧ 0 < n ∧ n ≤ 20 ∧ ∀ (l : Addr) (us : List V) (ls : List Lin) (H' : Hp), H l = none → H' l = some (.lst us) → DpAll K H' us (ls.map Lin.d) → 0 < ls.length → ls.length ≤ n → (∀ x ∈ ls, x.Ok ls.length) → Bag H' b → Kp b H H' → Q (.ref l) H'

theorem sc__law_lines : FnScope ["bag", "top_z", "kinds", "found", "plain", "row"] ["bag", "top_z", "kinds"] (defScope s__law_lines) := ⟨rfl, rfl, rfl, by decide +kernel, rfl, by decide +kernel, by decide +kernel⟩
theorem ok__law_lines (E : En K mg) (G__law_states : Good P w K mg base CX0 3 "_law_states" ["rows"] (sp__law_states K)) (G__law_drawn : Good P w K mg base CX0 4 "_law_drawn" ["bag", "top_z", "kinds"] (sp__law_drawn K)) : Good P w K mg base CX0 5 "_law_lines" ["bag", "top_z", "kinds"] (sp__law_lines K) := by
  obtain ⟨fd, F⟩ := E.says.def_ 22 (d := d__law_lines) rfl
  refine ⟨fd, ?_, F.bindsN fun _ _ _ _ _ _ us hl => match us, hl with | [_, _, _], _ => rfl, F.kp, E.gl "_law_lines"⟩
  refine F.ok sc__law_lines (fun vs H Q E' h => ?_) (fun cdv A outer s H vs Q E' hr h => ?_)
  · obtain ⟨b, n, ks, rfl, _⟩ := h; rfl
  · have hu64 := hu64_of hr
    refine ⟨_, PSs.nox (pss_cons (ps_set (i := 3) sc__law_lines.nd rfl (by first | exact Or.inl rfl | exact Or.inr rfl) (pe_G G__law_drawn (hr.mono (by decide)) rfl pass0 (pa_cons (pv 0) (pa_cons (pv 1) (pa_cons (pv 2) pa_nil)))))
      (pss_cons (ps_if (pt_cmpR op_lt (pe_callB call_len_seq (by rfl) (E.fr "len") (by decide +kernel) (pa_cons (pe_G G__law_states (hr.mono (by decide)) rfl pass0 (pa_cons (pv 3) pa_nil)) pa_nil)) pe_int (nomark _))
        (pss_one (ps_ret (pv 3)))
        pss_nil)
      (pss_cons (ps_set (i := 4) sc__law_lines.nd rfl (by first | exact Or.inl rfl | exact Or.inr rfl) (pe_lst pa_nil))
      (pss_cons (ps_for PassesOwn.never rfl (pi_list (pv 3)) (pg_name (i := 5) sc__law_lines.nd rfl (by first | exact Or.inl rfl | exact Or.inr rfl))
        (pss_one (ps_expr (pe_bm PySem.F.plainAttrs_list PySem.F.slot_list_append PySem.F.type_list_append mt_append (pv 4) (pa_cons (pe_ifExp (PW.pt (pw_or (pt_cmpR op_eq (pe_ix ix_tup (pv 5) pe_int (fun _ _ => rfl)) pe_str (nomark _)) (pw_or1 (PW.pt (pw_and (pt_cmpR op_eq (pe_ix ix_tup (pv 5) pe_int (fun _ _ => rfl)) pe_str (nomark _)) (pw_and1 (pt_cmpR op_eq (pe_ix ix_tup (pe_ix ix_tup (pv 5) pe_int (fun _ _ => rfl)) pe_int (fun _ _ => rfl)) pe_str (nomark _)))))))) (pe_tup (pa_cons pe_str (pa_cons pe_str pa_nil))) (pv 5)) pa_nil)))))
      (pss_one (ps_ret (pv 4))))))), ?_⟩
    obtain ⟨b, n, ks, rfl, B, h0, h1, k⟩ := h
    have z0 : 0 ≤ sizeLine := by decide
    have z2 : 2 ≤ sizeLine := by decide
    refine ⟨_, rfl, _, rfl, _, rfl, b, n, ks, rfl, B, h0, by omega, fun l us ls H1 hlH hL hA l0 l1 hok B1 k1 => ?_⟩
    refine ⟨_, rfl, l, us, ls, rfl, SqL.of hL, hA, hok, l0, by omega, fun sl sw ss H2 e2 hSl hSd => ⟨sl, _, rfl, .inl (SqL.of hSl), _, _, rfl, rfl, _, rfl, ?_⟩⟩
    have B2 := B1.keep e2
    have k2 := k1.trans (Kp.of e2)
    have hL2 := e2 _ _ hL
    have hA2 := Dp.sameAll e2 hA
    refine ite2 (fun _ => ⟨_, rfl, k l us ls H2 hlH hL2 hA2 l0 l1 hok B2 k2⟩) (fun _ => ?_)
    -- plain
    refine ⟨z0, fun pl hpl => ?_⟩
    have npb : pl ≠ b := B2.ne hpl
    have e3 := same_new (o := .lst []) hpl
    have hplH : H pl = none := by
      cases q : H pl with
      | none => rfl
      | some o =>
        rw [k2 _ _ npb q] at hpl
        cases hpl
    have hL3 := e3 _ _ hL2
    have hA3 := Dp.sameAll e3 hA2
    have hlp : l ≠ pl := ne_of_none hL2 hpl
    have hul : us.length = ls.length := by
      have := DpAll.length hA
      rw [List.length_map] at this
      exact this
    refine ⟨_, rfl, l, rfl, ⟨_, SqL.of hL3⟩, for_list (K := K) (a := l) (xs := us) (fun i σ H' => ∃ (ws : List V) (ps : List Lin) (s5 : Option V), σ = [some (.ref b), some (.int (n : Int)), some (.str ks), some (.ref l), some (.ref pl), s5] ∧ Same H2 H' ∧ H' pl = some (.lst ws) ∧ DpAll K H' ws (ps.map Lin.d) ∧ ps.length = i ∧ ∀ x ∈ ps, x.Ok ls.length) ⟨[], [], _, rfl, e3, upd_same, .nil, rfl, fun x hx => absurd hx List.not_mem_nil⟩ (fun _ σ H' _ ⟨_, _, _, _, e, _⟩ => SqL.of (e _ _ hL2)) ?_ ?_⟩
    · rintro i z σ H4 hz ⟨ws, ps, s5, rfl, e4, hW, hP, hpl2, hpo⟩
      obtain ⟨x, hx, hv⟩ := lin_at (Dp.sameAll e4 hA2) hz
      have hxo := hok x (List.mem_of_getElem? hx)
      obtain ⟨c, cs, rfl, hS, hC⟩ := Dp.lin hv
      have hi : i < us.length := (List.getElem?_eq_some_iff.mp hz).1
      have wl : ws.length = ps.length := by
        have := DpAll.length hP
        rw [List.length_map] at this
        exact this
      have keep : H4 pl = some (.lst ws) ∧ ws.length < sizeLine ∧ ∃ (ws' : List V) (ps : List Lin) (s5 : Option V), [some (V.ref b), some (V.int (n : Int)), some (V.str ks), some (V.ref l), some (V.ref pl), some (V.ref c)] = [some (.ref b), some (.int (n : Int)), some (.str ks), some (.ref l), some (.ref pl), s5] ∧ Same H2 (upd H4 pl (.lst (ws ++ [.ref c]))) ∧ (upd H4 pl (.lst (ws ++ [.ref c]))) pl = some (.lst ws') ∧ DpAll K (upd H4 pl (.lst (ws ++ [.ref c]))) ws' (ps.map Lin.d) ∧ ps.length = i + 1 ∧ ∀ x ∈ ps, x.Ok ls.length := by
        refine ⟨hW, szl (by omega), ws ++ [.ref c], ps ++ [x], _, rfl, same_mut e4 hpl, upd_same, ?_, by rw [List.length_append, hpl2]; rfl, fun y hy => ?_⟩
        · rw [List.map_append]
          exact DpAll.append (Dp.sameTs (.put hW) (lin_nls ps) hP) (.cons (Dp.sameT (.put hW) x.nl hv) .nil)
        · rcases List.mem_append.mp hy with hy | hy
          · exact hpo y hy
          · rw [List.mem_singleton.mp hy]; exact hxo
      have swap : ∀ q, H4 q = none → ∀ (Q' : Prop), True := fun _ _ _ => trivial
      have swap : ∀ q, H4 q = none → (upd H4 q (.tup [V.str "take", .str "x"])) pl = some (.lst ws) ∧ ws.length < sizeLine ∧ ∃ (ws' : List V) (ps : List Lin) (s5 : Option V), [some (V.ref b), some (V.int (n : Int)), some (V.str ks), some (V.ref l), some (V.ref pl), some (V.ref c)] = [some (.ref b), some (.int (n : Int)), some (.str ks), some (.ref l), some (.ref pl), s5] ∧ Same H2 (upd (upd H4 q (.tup [V.str "take", .str "x"])) pl (.lst (ws ++ [.ref q]))) ∧ (upd (upd H4 q (.tup [V.str "take", .str "x"])) pl (.lst (ws ++ [.ref q]))) pl = some (.lst ws') ∧ DpAll K (upd (upd H4 q (.tup [V.str "take", .str "x"])) pl (.lst (ws ++ [.ref q]))) ws' (ps.map Lin.d) ∧ ps.length = i + 1 ∧ ∀ x ∈ ps, x.Ok ls.length := fun q hq => by
        have f1 := same_new (o := .tup [V.str "take", .str "x"]) hq
        have hW1 := f1 _ _ hW
        have hq1 : Dp K (upd H4 q (.tup [V.str "take", .str "x"])) (.ref q) (Lin.take true).d := .tup (SqT.of upd_same) (.cons (.str _) (.cons (.str _) .nil))
        refine ⟨hW1, szl (by omega), ws ++ [.ref q], ps ++ [.take true], _, rfl, same_mut (e4.trans f1) hpl, upd_same, ?_, by rw [List.length_append, hpl2]; rfl, fun y hy => ?_⟩
        · rw [List.map_append]
          exact DpAll.append (Dp.sameTs (.put hW1) (lin_nls ps) (Dp.sameAll f1 hP)) (.cons (Dp.sameT (.put hW1) (Lin.nl _) hq1) .nil)
        · rcases List.mem_append.mp hy with hy | hy
          · exact hpo y hy
          · rw [List.mem_singleton.mp hy]; exact trivial
      refine ⟨_, rfl, .inl ⟨rfl, _, SqL.of hW⟩, _, rfl, c, _, _, _, rfl, rfl, hS, at_0 _ _, rfl, _, rfl, ?_⟩
      cases x with
      | set v m =>
        exact ite_t (Lin.w_is (.set v m) 2) ⟨z2, fun q hq => ⟨pl, _, _, rfl, rfl, swap q hq⟩⟩
      | test t tg =>
        refine ite_f (Lin.w_is (.test t tg) 2) ?_
        obtain ⟨u1, u2, rfl, g1, g2⟩ := DpAll.two' hC
        obtain ⟨tb, tw, rfl, hT, hTC⟩ := Dp.tst g1
        refine ⟨_, rfl, c, _, _, _, rfl, rfl, hS, at_0 _ _, rfl, _, rfl, ite_t (Lin.w_is (.test t tg) 3) ?_⟩
        refine ⟨_, rfl, c, _, _, _, rfl, rfl, hS, at_1 _ _ _, tb, _, _, _, rfl, rfl, hT, at_0 _ _, rfl, _, rfl, ?_⟩
        exact ite2 (fun _ => ⟨z2, fun q hq => ⟨pl, _, _, rfl, rfl, swap q hq⟩⟩) (fun _ => ⟨_, rfl, pl, _, _, rfl, rfl, keep⟩)
      | _ =>
        refine ite_f (Lin.w_is _ 2) ⟨_, rfl, c, _, _, _, rfl, rfl, hS, at_0 _ _, rfl, _, rfl, ite_f (Lin.w_is _ 3) ?_⟩
        exact ⟨_, rfl, pl, _, _, rfl, rfl, keep⟩
    rintro σ H4 ⟨ws, ps, s5, rfl, e4, hW, hP, hpl2, hpo⟩
    have ep : ps.length = ls.length := by omega
    exact ⟨_, rfl, k pl ws ps H4 hplH hW hP (by omega) (by omega) (by rw [ep]; exact hpo) (B2.keep e4) (k2.trans (Kp.of e4))⟩

/-! ### _law_same -/
/-- no list or tuple is long -/
abbrev small : PyData → Bool := smallD
/-- two values of the same data -/
def spSame (n : Nat) (K : PySem.W.Frag) : Sp := fun vs H Q _ => ∃ (u v : V) (d : PyData), vs = [u, v] ∧ Dp K H u d ∧ Dp K H v d ∧ d.depth < n ∧ small d = true ∧ ∀ H', Same H H' → Q (.bl true) H'
def sp__law_same (K : PySem.W.Frag) : Sp := spSame 12 K

theorem sc__law_same : FnScope ["found", "due", "a", "b"] ["found", "due"] (defScope s__law_same) := ⟨rfl, rfl, rfl, by decide +kernel, rfl, by decide +kernel, by decide +kernel⟩
/-- lists within are short -/
theorem depth_get : ∀ {ds : List PyData} {i : Nat} {d : PyData}, ds[i]? = some d → d.depth ≤ PyData.depthAll ds
  | [], _, _, h => by cases h
  | _ :: _, 0, _, h => by
    cases h
    rw [PyData.depthAll]
    exact Nat.le_max_left _ _
  | _ :: ds, i + 1, _, h => by
    rw [PyData.depthAll]
    exact Nat.le_trans (depth_get (ds := ds) (i := i) (by simpa using h)) (Nat.le_max_right _ _)
theorem walk_zipT {K : PySem.W.Frag} {a b : Addr} {xs ys : List V} {n : Nat} (hn : n = min xs.length ys.length) : Walk (RZ.ItzT K a b) n (fun H => SqT K H a xs ∧ SqT K H b ys) (YPair (fun i => xs[i]?) (fun i => ys[i]?)) := by
  subst hn
  refine ⟨fun i _ hi q => ?_, fun _ q => ⟨xs, ys, q.1, q.2, by omega⟩, fun i H v H' _ q y => ?_⟩
  · have h1 : i < xs.length := by omega
    have h2 : i < ys.length := by omega
    exact ⟨xs, ys, xs[i], ys[i], q.1, q.2, by simp [h1], by simp [h2]⟩
  · obtain ⟨T, x, z, h1, h2, h3, h4, h5⟩ := y
    exact ⟨T, x, z, h1, h2, h3, h4 xs q.1, h5 ys q.2⟩
theorem same_step {n : Nat} (E : En K mg) (G__law_same : Good P w K mg base CX0 n "_law_same" ["found", "due"] (spSame n K)) : Good P w K mg base CX0 (n + 1) "_law_same" ["found", "due"] (spSame (n + 1) K) := by
  obtain ⟨fd, F⟩ := E.says.def_ 23 (d := d__law_same) rfl
  refine ⟨fd, ?_, F.bindsN fun _ _ _ _ _ _ us hl => match us, hl with | [_, _], _ => rfl, F.kp, E.gl "_law_same"⟩
  refine F.ok sc__law_same (fun vs H Q E' h => ?_) (fun cdv A outer s H vs Q E' hr h => ?_)
  · obtain ⟨u, v, d, rfl, _⟩ := h; rfl
  refine ⟨_, PSs.nox (pss_cons (ps_if (PW.pt (pw_or (pt_val (pe_callB call_isi (by rfl) (E.fr "isinstance") (by decide +kernel) (pa_cons (pv 1) (pa_cons (pe_bltn (v := .ty "list") (by rfl) (E.fr "list") (by decide +kernel) rfl) pa_nil)))) (pw_or1 (pt_val (pe_callB call_isi (by rfl) (E.fr "isinstance") (by decide +kernel) (pa_cons (pv 1) (pa_cons (pe_bltn (v := .ty "tuple") (by rfl) (E.fr "tuple") (by decide +kernel) rfl) pa_nil)))))))
        (pss_cons (ps_if (PW.pt (pw_or (pt_cmpR op_ne (pe_callB call_isi (by rfl) (E.fr "isinstance") (by decide +kernel) (pa_cons (pv 0) (pa_cons (pe_bltn (v := .ty "list") (by rfl) (E.fr "list") (by decide +kernel) rfl) pa_nil))) (pe_callB call_isi (by rfl) (E.fr "isinstance") (by decide +kernel) (pa_cons (pv 1) (pa_cons (pe_bltn (v := .ty "list") (by rfl) (E.fr "list") (by decide +kernel) rfl) pa_nil))) (nomark _)) (pw_or1 (pt_cmpR op_ne (pe_callB call_isi (by rfl) (E.fr "isinstance") (by decide +kernel) (pa_cons (pv 0) (pa_cons (pe_bltn (v := .ty "tuple") (by rfl) (E.fr "tuple") (by decide +kernel) rfl) pa_nil))) (pe_callB call_isi (by rfl) (E.fr "isinstance") (by decide +kernel) (pa_cons (pv 1) (pa_cons (pe_bltn (v := .ty "tuple") (by rfl) (E.fr "tuple") (by decide +kernel) rfl) pa_nil))) (nomark _)))))
        (pss_one (ps_ret pe_bl))
        pss_nil)
      (pss_one (ps_ret (pe_and (pe_cmpR op_eq (pe_callB call_len_seq (by rfl) (E.fr "len") (by decide +kernel) (pa_cons (pv 0) pa_nil)) (pe_callB call_len_seq (by rfl) (E.fr "len") (by decide +kernel) (pa_cons (pv 1) pa_nil)) (nomark _)) (pe_one (pe_callB (show CallR _ _ (rAll K) from cr_all rfl) (by rfl) (E.fr "all") (by decide +kernel) (pa_cons (pe_lc (own := [("a", 2), ("b", 3)]) (by rfl) sc__law_same.nd (RZ.pi_zipA (by rfl) (E.fr "zip") (pa_cons (pv 0) (pa_cons (pv 1) pa_nil))) (blkOk_by (N := ["found", "due", "a", "b"]) (sc := defScope s__law_same) (by decide +kernel)) (by exact fun _ _ _ _ _ => (show PG _ _ (gTup K 2 _) from pg_tup (n := 2) rfl (pgs_cons (pg_name (i := 2) sc__law_same.nd rfl (by first | exact Or.inl rfl | exact Or.inr rfl)) (pgs_cons (pg_name (i := 3) sc__law_same.nd rfl (by first | exact Or.inl rfl | exact Or.inr rfl)) pgs_nil)))) (by exact fun _ _ _ _ _ => pts_nil) (by exact fun _ _ _ _ _ => (pe_G G__law_same hr rfl pass0 (pa_cons (pv 2) (pa_cons (pv 3) pa_nil))))) pa_nil)))))))
        pss_nil)
      (pss_cons (ps_if (PW.pt (pw_or (pt_cmpR op_isN (pv 1) pe_non (nomark _)) (pw_or1 (pt_cmpR op_isN (pv 0) pe_non (nomark _)))))
        (pss_one (ps_ret (pe_and (pe_cmpR op_isN (pv 1) pe_non (nomark _)) (pe_one (pe_cmpR op_isN (pv 0) pe_non (nomark _))))))
        pss_nil)
      (pss_cons (ps_if (PW.pt (pw_or (pt_cmpR op_ne (pe_callB call_isi (by rfl) (E.fr "isinstance") (by decide +kernel) (pa_cons (pv 0) (pa_cons (pe_bltn (v := .ty "bool") (by rfl) (E.fr "bool") (by decide +kernel) rfl) pa_nil))) (pe_callB call_isi (by rfl) (E.fr "isinstance") (by decide +kernel) (pa_cons (pv 1) (pa_cons (pe_bltn (v := .ty "bool") (by rfl) (E.fr "bool") (by decide +kernel) rfl) pa_nil))) (nomark _)) (pw_or1 (pt_cmpR op_ne (pe_callB call_isi (by rfl) (E.fr "isinstance") (by decide +kernel) (pa_cons (pv 0) (pa_cons (pe_bltn (v := .ty "int") (by rfl) (E.fr "int") (by decide +kernel) rfl) pa_nil))) (pe_callB call_isi (by rfl) (E.fr "isinstance") (by decide +kernel) (pa_cons (pv 1) (pa_cons (pe_bltn (v := .ty "int") (by rfl) (E.fr "int") (by decide +kernel) rfl) pa_nil))) (nomark _)))))
        (pss_one (ps_ret pe_bl))
        pss_nil)
      (pss_one (ps_ret (pe_and (pe_cmpR op_eq (pe_callB call_isi (by rfl) (E.fr "isinstance") (by decide +kernel) (pa_cons (pv 0) (pa_cons (pe_bltn (v := .ty "str") (by rfl) (E.fr "str") (by decide +kernel) rfl) pa_nil))) (pe_callB call_isi (by rfl) (E.fr "isinstance") (by decide +kernel) (pa_cons (pv 1) (pa_cons (pe_bltn (v := .ty "str") (by rfl) (E.fr "str") (by decide +kernel) rfl) pa_nil))) (nomark _)) (pe_one (pe_cmpR op_eq (pv 0) (pv 1) (nomark _))))))))), ?_⟩
  obtain ⟨u, v, d, rfl, hu, hv, hd, hl, k⟩ := h
  rcases d with _ | bb | ii | ss | ds | ds | kv
  · -- none
    cases hv
    cases hu
    have t0 : TyX K H (V.non) (.type "NoneType") := .base .non
    refine ⟨_, rfl, _, _, _, _, false, rfl, .ty _, t0, kit_ty (by decide +kernel), _, rfl, ?_⟩
    refine ite_f rfl ⟨_, rfl, _, _, _, _, false, rfl, .ty _, t0, kit_ty (by decide +kernel), _, rfl, ?_⟩
    refine ite_f rfl ⟨_, rfl, rfl, _, rfl, ?_⟩
    refine ⟨_, rfl, rfl, _, rfl, ?_⟩
    refine ite_t rfl ⟨_, rfl, rfl, ?_⟩
    exact k H (Same.refl H)
  · -- bool
    cases hv
    cases hu
    have t0 : TyX K H (V.bl bb) (.type "bool") := .base (.bl bb)
    refine ⟨_, rfl, _, _, _, _, false, rfl, .ty _, t0, kit_ty (by decide +kernel), _, rfl, ?_⟩
    refine ite_f rfl ⟨_, rfl, _, _, _, _, false, rfl, .ty _, t0, kit_ty (by decide +kernel), _, rfl, ?_⟩
    refine ite_f rfl ⟨_, rfl, rfl, _, rfl, ?_⟩
    refine ite_f rfl ⟨_, rfl, rfl, _, rfl, ?_⟩
    refine ite_f rfl ⟨_, rfl, _, _, _, _, true, rfl, .ty _, t0, kit_ty (by decide +kernel), _, rfl, _, _, _, _, true, rfl, .ty _, t0, kit_ty (by decide +kernel), rfl, _, rfl, ?_⟩
    refine ite_f rfl ⟨_, rfl, _, _, _, _, true, rfl, .ty _, t0, kit_ty (by decide +kernel), _, rfl, _, _, _, _, true, rfl, .ty _, t0, kit_ty (by decide +kernel), rfl, _, rfl, ?_⟩
    refine ite_f rfl ⟨_, rfl, _, _, _, _, false, rfl, .ty _, t0, kit_ty (by decide +kernel), _, rfl, _, _, _, _, false, rfl, .ty _, t0, kit_ty (by decide +kernel), rfl, _, rfl, ?_⟩
    refine ite_t rfl ⟨_, rfl, _, rfl, rfl, ?_⟩
    rw [decide_eq_true (Eq.refl _)]
    exact k H (Same.refl H)
  · -- int
    cases hv
    cases hu
    have t0 : TyX K H (V.int ii) (.type "int") := .base (.int ii)
    refine ⟨_, rfl, _, _, _, _, false, rfl, .ty _, t0, kit_ty (by decide +kernel), _, rfl, ?_⟩
    refine ite_f rfl ⟨_, rfl, _, _, _, _, false, rfl, .ty _, t0, kit_ty (by decide +kernel), _, rfl, ?_⟩
    refine ite_f rfl ⟨_, rfl, rfl, _, rfl, ?_⟩
    refine ite_f rfl ⟨_, rfl, rfl, _, rfl, ?_⟩
    refine ite_f rfl ⟨_, rfl, _, _, _, _, false, rfl, .ty _, t0, kit_ty (by decide +kernel), _, rfl, _, _, _, _, false, rfl, .ty _, t0, kit_ty (by decide +kernel), rfl, _, rfl, ?_⟩
    refine ite_f rfl ⟨_, rfl, _, _, _, _, true, rfl, .ty _, t0, kit_ty (by decide +kernel), _, rfl, _, _, _, _, true, rfl, .ty _, t0, kit_ty (by decide +kernel), rfl, _, rfl, ?_⟩
    refine ite_f rfl ⟨_, rfl, _, _, _, _, false, rfl, .ty _, t0, kit_ty (by decide +kernel), _, rfl, _, _, _, _, false, rfl, .ty _, t0, kit_ty (by decide +kernel), rfl, _, rfl, ?_⟩
    refine ite_t rfl ⟨_, rfl, _, rfl, rfl, ?_⟩
    rw [decide_eq_true (Eq.refl _)]
    exact k H (Same.refl H)
  · -- str
    cases hv
    cases hu
    have t0 : TyX K H (V.str ss) (.type "str") := .base (.str ss)
    refine ⟨_, rfl, _, _, _, _, false, rfl, .ty _, t0, kit_ty (by decide +kernel), _, rfl, ?_⟩
    refine ite_f rfl ⟨_, rfl, _, _, _, _, false, rfl, .ty _, t0, kit_ty (by decide +kernel), _, rfl, ?_⟩
    refine ite_f rfl ⟨_, rfl, rfl, _, rfl, ?_⟩
    refine ite_f rfl ⟨_, rfl, rfl, _, rfl, ?_⟩
    refine ite_f rfl ⟨_, rfl, _, _, _, _, false, rfl, .ty _, t0, kit_ty (by decide +kernel), _, rfl, _, _, _, _, false, rfl, .ty _, t0, kit_ty (by decide +kernel), rfl, _, rfl, ?_⟩
    refine ite_f rfl ⟨_, rfl, _, _, _, _, false, rfl, .ty _, t0, kit_ty (by decide +kernel), _, rfl, _, _, _, _, false, rfl, .ty _, t0, kit_ty (by decide +kernel), rfl, _, rfl, ?_⟩
    refine ite_f rfl ⟨_, rfl, _, _, _, _, true, rfl, .ty _, t0, kit_ty (by decide +kernel), _, rfl, _, _, _, _, true, rfl, .ty _, t0, kit_ty (by decide +kernel), rfl, _, rfl, ?_⟩
    refine ite_t rfl ⟨_, rfl, _, rfl, rfl, ?_⟩
    rw [decide_eq_true (Eq.refl _)]
    exact k H (Same.refl H)
  · -- a list
    cases hv with
    | lst hv1 hv2 =>
    cases hu with
    | lst hu1 hu2 =>
    rename_i a xs b ys
    have tu := tyL hu1
    have tv := tyL hv1
    have hl := small_ofL hl
    have h0 : PyData.depthAll ds < n := by
      rw [PyData.depth] at hd
      omega
    have l1 := DpAll.length hu2
    have l2 := DpAll.length hv2
    refine ⟨_, rfl, _, _, _, _, true, rfl, .ty _, tv, kit_ty (by decide +kernel), _, rfl, ?_⟩
    refine ⟨_, rfl, _, _, _, _, true, rfl, .ty _, tu, kit_ty (by decide +kernel), _, rfl, _, _, _, _, true, rfl, .ty _, tv, kit_ty (by decide +kernel), rfl, _, rfl, ?_⟩
    refine ite_f rfl ⟨_, rfl, _, _, _, _, false, rfl, .ty _, tu, kit_ty (by decide +kernel), _, rfl, _, _, _, _, false, rfl, .ty _, tv, kit_ty (by decide +kernel), rfl, _, rfl, ?_⟩
    refine ite_f rfl ?_
    -- len(found) == len(due) and all([..])
    refine ⟨_, rfl, _, _, rfl, (.inl hu1), _, rfl, _, _, rfl, (.inl hv1), rfl, _, rfl, ?_⟩
    refine ite_t (decide_eq_true (by rw [l1, l2])) ?_
    refine ⟨_, rfl, _, rfl, _, _, _, _, rfl, (.inl ⟨hu1, hv1, fun D hD => ?_⟩)⟩
    refine lc_it (walk_zip (n := ds.length) (by rw [l1, l2, Nat.min_self])) (fun i H' => Same H H' ∧ H' D = some (.lst (List.replicate i (V.bl true)))) ⟨same_new hD, upd_same⟩ (fun i H' _ q => ⟨q.1.seq hu1, q.1.seq hv1⟩) ?_ ?_
    · rintro i x H2 H3 hi ⟨e2, g2⟩ ⟨T, u1, v1, rfl, hT, rfl, q1, q2⟩
      have e3 : Same H (upd H2 T (.tup [u1, v1])) := e2.trans (same_new hT)
      obtain ⟨d1, r1, s1⟩ := DpAll.get hu2 q1
      obtain ⟨d2, r2, s2⟩ := DpAll.get hv2 q2
      have ed : d2 = d1 := Option.some.inj (r2.symm.trans r1)
      subst ed
      refine ⟨T, _, rfl, SqT.of upd_same, rfl, _, _, rfl, _, _, rfl, rfl, rfl, ?_⟩
      refine ⟨_, rfl, _, rfl, u1, v1, d2, rfl, Dp.same e3 s1, Dp.same e3 s2, Nat.lt_of_le_of_lt (depth_get r1) h0, hl.2 r1, fun H4 e4 => ?_⟩
      refine ⟨_, e4 _ _ (by rw [upd_ne (ne_of_none g2 hT)]; exact g2), ?_, same_mut (e3.trans e4) hD, ?_⟩
      · rw [List.length_replicate]
        exact szl (Nat.lt_of_lt_of_le hi (Nat.le_trans hl.1 (by decide)))
      · rw [upd_same, List.replicate_succ']
    · rintro H2 ⟨e2, g2⟩
      refine ⟨D, List.replicate ds.length true, rfl, SqL.of (by rw [List.map_replicate]; exact g2), ?_⟩
      rw [show (List.replicate ds.length true).all id = true by simp]
      exact k H2 e2
  · -- a tuple
    cases hv with
    | tup hv1 hv2 =>
    cases hu with
    | tup hu1 hu2 =>
    rename_i a xs b ys
    have tu := tyT hu1
    have tv := tyT hv1
    have hl := small_ofT hl
    have h0 : PyData.depthAll ds < n := by
      rw [PyData.depth] at hd
      omega
    have l1 := DpAll.length hu2
    have l2 := DpAll.length hv2
    refine ⟨_, rfl, _, _, _, _, false, rfl, .ty _, tv, kit_ty (by decide +kernel), _, rfl, ?_⟩
    refine ite_f rfl ⟨_, rfl, _, _, _, _, true, rfl, .ty _, tv, kit_ty (by decide +kernel), _, rfl, ?_⟩
    refine ⟨_, rfl, _, _, _, _, false, rfl, .ty _, tu, kit_ty (by decide +kernel), _, rfl, _, _, _, _, false, rfl, .ty _, tv, kit_ty (by decide +kernel), rfl, _, rfl, ?_⟩
    refine ite_f rfl ⟨_, rfl, _, _, _, _, true, rfl, .ty _, tu, kit_ty (by decide +kernel), _, rfl, _, _, _, _, true, rfl, .ty _, tv, kit_ty (by decide +kernel), rfl, _, rfl, ?_⟩
    refine ite_f rfl ?_
    -- len(found) == len(due) and all([..])
    refine ⟨_, rfl, _, _, rfl, (.inr hu1), _, rfl, _, _, rfl, (.inr hv1), rfl, _, rfl, ?_⟩
    refine ite_t (decide_eq_true (by rw [l1, l2])) ?_
    refine ⟨_, rfl, _, rfl, _, _, _, _, rfl, (.inr ⟨hu1, hv1, fun D hD => ?_⟩)⟩
    refine lc_it (walk_zipT (n := ds.length) (by rw [l1, l2, Nat.min_self])) (fun i H' => Same H H' ∧ H' D = some (.lst (List.replicate i (V.bl true)))) ⟨same_new hD, upd_same⟩ (fun i H' _ q => ⟨seqT q.1 hu1, seqT q.1 hv1⟩) ?_ ?_
    · rintro i x H2 H3 hi ⟨e2, g2⟩ ⟨T, u1, v1, rfl, hT, rfl, q1, q2⟩
      have e3 : Same H (upd H2 T (.tup [u1, v1])) := e2.trans (same_new hT)
      obtain ⟨d1, r1, s1⟩ := DpAll.get hu2 q1
      obtain ⟨d2, r2, s2⟩ := DpAll.get hv2 q2
      have ed : d2 = d1 := Option.some.inj (r2.symm.trans r1)
      subst ed
      refine ⟨T, _, rfl, SqT.of upd_same, rfl, _, _, rfl, _, _, rfl, rfl, rfl, ?_⟩
      refine ⟨_, rfl, _, rfl, u1, v1, d2, rfl, Dp.same e3 s1, Dp.same e3 s2, Nat.lt_of_le_of_lt (depth_get r1) h0, hl.2 r1, fun H4 e4 => ?_⟩
      refine ⟨_, e4 _ _ (by rw [upd_ne (ne_of_none g2 hT)]; exact g2), ?_, same_mut (e3.trans e4) hD, ?_⟩
      · rw [List.length_replicate]
        exact szl (Nat.lt_of_lt_of_le hi (Nat.le_trans hl.1 (by decide)))
      · rw [upd_same, List.replicate_succ']
    · rintro H2 ⟨e2, g2⟩
      refine ⟨D, List.replicate ds.length true, rfl, SqL.of (by rw [List.map_replicate]; exact g2), ?_⟩
      rw [show (List.replicate ds.length true).all id = true by simp]
      exact k H2 e2
  · cases hu
theorem same_none (E : En K mg) : Good P w K mg base CX0 0 "_law_same" ["found", "due"] (spSame 0 K) := by
  obtain ⟨fd, F⟩ := E.says.def_ 23 (d := d__law_same) rfl
  have no : ∀ vs H Q E', ¬ spSame 0 K vs H Q E' := fun vs H Q E' h => by
    obtain ⟨u, v, d, _, _, _, hd, _⟩ := h
    omega
  exact ⟨fd, ⟨fun vs H Q E' h => absurd h (no vs H Q E'), fun A outer s H args us vs Q E' _ _ _ _ h => absurd h (no vs H Q E')⟩, F.bindsN fun _ _ _ _ _ _ us hl => match us, hl with | [_, _], _ => rfl, F.kp, E.gl "_law_same"⟩
theorem same_all (E : En K mg) : ∀ n : Nat, Good P w K mg base CX0 n "_law_same" ["found", "due"] (spSame n K)
  | 0 => same_none E
  | n + 1 => same_step E (same_all E n)
theorem ok__law_same (E : En K mg) : Good P w K mg base CX0 12 "_law_same" ["found", "due"] (sp__law_same K) := same_all E 12


/-! ### Program.lines -/
def sp_Program_lines (K : PySem.W.Frag) : Sp := fun vs H Q _ => ∃ (a : Addr) (us : List V) (ls : List Lin), vs = [.ref a] ∧ ProgAt K H a us ls ∧ ∀ q, H q = none → Q (.ref q) (upd H q (.lst us))

theorem sc_Program_lines : FnScope ["self"] ["self"] (defScope s_Program_lines) := ⟨rfl, rfl, rfl, by decide +kernel, rfl, by decide +kernel, by decide +kernel⟩
theorem ok_Program_lines (E : En K mg) : GoodM P w K mg base CX0 1 (He.ma K (He.ga K "Program") "lines") ["self"] (sp_Program_lines K) := by
  obtain ⟨fd, F⟩ := E.says.def_ 24 (d := d_Program_lines) rfl
  refine ⟨fd, ?_, F.bindsN fun _ _ _ _ _ _ us hl => match us, hl with | [_], _ => rfl⟩
  refine F.ok sc_Program_lines (fun vs H Q E' h => ?_) (fun cdv A outer s H vs Q E' hr h => ?_)
  · obtain ⟨a, us, ls, rfl, _⟩ := h; rfl
  · have hu64 := hu64_of hr
    refine ⟨_, PSs.nox (pss_one (ps_ret (pe_callTy call_list_of (by rfl) (E.fr "list") (by decide +kernel) (pa_cons (pe_fld (pv 0) (by rfl)) pa_nil)))), ?_⟩
    obtain ⟨a, us, ls, rfl, hP, k⟩ := h
    obtain ⟨dx, rp, h1, h2, h3⟩ := hP.ex
    exact ⟨_, rfl, a, _, dx, _, _, rfl, h1, En.cls_Program E, En.noat_Program_rows E, rfl, rp, us, rfl, .inr h3, k⟩

/-! ### Program.single -/
def isCh : Lin → Bool
  | .choose _ => true
  | _ => false
def sp_Program_single (K : PySem.W.Frag) : Sp := fun vs H Q _ => ∃ (a : Addr) (us : List V) (ls : List Lin), vs = [.ref a] ∧ ProgAt K H a us ls ∧ ∀ H', Same H H' → Q (.bl (!ls.any isCh)) H'

theorem sc_Program_single : FnScope ["self", "line"] ["self"] (defScope s_Program_single) := ⟨rfl, rfl, rfl, by decide +kernel, rfl, by decide +kernel, by decide +kernel⟩
theorem ok_Program_single (E : En K mg) : GoodM P w K mg base CX0 1 (He5.wf K (He.ga K "Program") "property" "single") ["self"] (sp_Program_single K) := by
  obtain ⟨fd, F⟩ := E.saysA.def_ 0 (d := d_Program_single) rfl
  refine ⟨fd, ?_, F.bindsN fun _ _ _ _ _ _ us hl => match us, hl with | [_], _ => rfl⟩
  refine F.ok sc_Program_single (fun vs H Q E' h => ?_) (fun cdv A outer s H vs Q E' hr h => ?_)
  · obtain ⟨a, us, ls, rfl, _⟩ := h; rfl
  · have hu64 := hu64_of hr
    refine ⟨_, PSs.nox (pss_one (ps_ret (pe_callB (cr_all rfl) (by rfl) (E.fr "all") (by decide +kernel) (pa_cons (pe_lc (own := [("line", 1)]) (by rfl) sc_Program_single.nd (pi_tup (pe_fld (pv 0) (by rfl))) (blkOk_by (N := ["self", "line"]) (sc := defScope s_Program_single) (by decide +kernel)) (by exact fun _ _ _ _ _ => (pg_name (i := 1) sc_Program_single.nd rfl (by first | exact Or.inl rfl | exact Or.inr rfl))) (by exact fun _ _ _ _ _ => pts_nil) (by exact fun _ _ _ _ _ => (pe_cmpR op_ne (pe_ix (show IxR _ (rIxT K) from ix_tup) (pv 1) pe_int (fun _ _ => rfl)) pe_str (nomark _)))) pa_nil)))), ?_⟩
    obtain ⟨a, us, ls, rfl, hP, k⟩ := h
    obtain ⟨dx, rp, h1, h2, h3⟩ := hP.ex
    have hl := hP.len
    have l60 := hP.l1
    have z9 : (1000 : Nat) ≤ sizeLine := by decide
    refine ⟨_, rfl, a, _, dx, _, _, rfl, h1, En.cls_Program E, En.noat_Program_rows E, rfl, rp, rfl, ⟨_, h3⟩, fun D hD0 => ?_⟩
    refine lc_tup (K := K) (a := rp) (xs := us) (fun i H' => Same H H' ∧ H' D = some (.lst (((ls.take i).map fun x => !isCh x).map V.bl))) ⟨same_new hD0, upd_same⟩ (fun i H' _ q => seqT q.1 h3) ?_ ?_
    · rintro i z H2 hz ⟨e, hD⟩
      obtain ⟨l, hx, hv⟩ := lin_at hP.dp hz
      obtain ⟨b, ws, rfl, hS, _⟩ := Dp.lin (Dp.same e hv)
      refine ⟨rfl, _, rfl, b, _, _, _, rfl, rfl, hS, at_0 _ _, rfl, _, hD, ?_, same_mut e hD0, ?_⟩
      · rw [List.length_map, List.length_map, List.length_take]
        omega
      · rw [upd_same, List.take_add_one, hx, List.map_append, List.map_append]
        have e2 : (!decide (V.str l.w = V.str "choose")) = !isCh l := by
          rw [show decide (V.str l.w = V.str "choose") = _ from Lin.w_is l 4]
          cases l <;> rfl
        rw [e2]
        rfl
    rintro H2 ⟨e, hD⟩
    rw [hl, List.take_length] at hD
    refine ⟨D, _, rfl, SqL.of hD, ?_⟩
    have e2 : (ls.map fun x => !isCh x).all id = !ls.any isCh := by
      clear hD hl l60 k hP
      induction ls with
      | nil => rfl
      | cons x ls ih =>
        rw [List.map_cons, List.all_cons, ih, List.any_cons]
        cases isCh x <;> rfl
    rw [e2]
    exact k _ e

/-! ### common_divisor -/
def sp_common_divisor (K : PySem.W.Frag) : Sp := fun vs H Q _ => ∃ x y : Nat, vs = [.int (x : Int), .int (y : Int)] ∧ Q (.int ((Nat.gcd x y : Nat) : Int)) H

theorem sc_common_divisor : FnScope ["one", "other"] ["one", "other"] (defScope s_common_divisor) := ⟨rfl, rfl, rfl, by decide +kernel, rfl, by decide +kernel, by decide +kernel⟩
theorem ok_common_divisor (E : En K mg) : Good P w K mg base CX0 1 "common_divisor" ["one", "other"] (sp_common_divisor K) := by
  obtain ⟨fd, F⟩ := E.says.def_ 25 (d := d_common_divisor) rfl
  refine ⟨fd, ?_, F.bindsN fun _ _ _ _ _ _ us hl => match us, hl with | [_, _], _ => rfl, F.kp, E.gl "common_divisor"⟩
  refine F.ok sc_common_divisor (fun vs H Q E' h => ?_) (fun cdv A outer s H vs Q E' hr h => ?_)
  · obtain ⟨x, y, rfl, _⟩ := h; rfl
  · have hu64 := hu64_of hr
    refine ⟨_, PSs.nox (pss_cons (ps_while PassesOwn.never (pt_cmpR op_ne (pv 1) pe_int (nomark _))
        (pss_one (ps_par (i := 0) (j := 1) rfl sc_common_divisor.nd rfl rfl (by decide) rfl rfl (pa_cons (pv 1) (pa_cons (pe_op op_mod (pv 0) (pv 1)) pa_nil)) rfl)))
      (pss_one (ps_ret (pv 0)))), ?_⟩
    obtain ⟨x, y, rfl, k⟩ := h
    refine ⟨fun m σ H' => ∃ a b : Nat, m = b ∧ σ = [some (.int (a : Int)), some (.int (b : Int))] ∧ H' = H ∧ Nat.gcd a b = Nat.gcd x y, ⟨y, x, y, rfl, rfl, rfl, rfl⟩, ?_⟩
    rintro m σ H' ⟨a, b, rfl, rfl, rfl, hg⟩
    refine ⟨_, rfl, rfl, _, rfl, ?_⟩
    refine ite2 (fun c => ?_) (fun c => ?_)
    · have c' : (0 : Int) < (m : Int) := by
        have q : ¬ (m : Int) = 0 := fun e => by rw [e] at c; cases c
        omega
      refine ⟨fun σ' H'' => ∃ m', m' < m ∧ ∃ a b : Nat, m' = b ∧ σ' = [some (.int (a : Int)), some (.int (b : Int))] ∧ H'' = H' ∧ Nat.gcd a b = Nat.gcd x y, fun _ _ q => q, ?_⟩
      refine ⟨_, rfl, _, rfl, _, rfl, _, _, rfl, rfl, c', _, _, rfl, ?_⟩
      refine ⟨a % m, Nat.mod_lt _ (by omega), m, a % m, rfl, ?_, rfl, ?_⟩
      · show [some (V.int (m : Int)), some (V.int ((a : Int) % (m : Int)))] = _
        rw [Int.natCast_emod]
      · rw [← hg, Nat.gcd_comm m, Nat.gcd_comm a m, ← Nat.gcd_rec]
    · have e : m = 0 := by
        by_cases z : (m : Int) = 0
        · omega
        · exact absurd (by rw [dne z]; rfl) c
      subst e
      rw [Nat.gcd_zero_right] at hg
      refine ⟨_, rfl, ?_⟩
      show Q (.int (a : Int)) H'
      rw [hg]
      exact k

/-! ### common_multiple -/
def sp_common_multiple (K : PySem.W.Frag) : Sp := fun vs H Q _ => ∃ x y : Nat, vs = [.int (x : Int), .int (y : Int)] ∧ 0 < x ∧ x ≤ 1000 ∧ y ≤ 1000 ∧ Q (.int ((lcmN x y : Nat) : Int)) H

theorem sc_common_multiple : FnScope ["one", "other"] ["one", "other"] (defScope s_common_multiple) := ⟨rfl, rfl, rfl, by decide +kernel, rfl, by decide +kernel, by decide +kernel⟩
theorem ok_common_multiple (E : En K mg) (G_common_divisor : Good P w K mg base CX0 1 "common_divisor" ["one", "other"] (sp_common_divisor K)) : Good P w K mg base CX0 2 "common_multiple" ["one", "other"] (sp_common_multiple K) := by
  obtain ⟨fd, F⟩ := E.says.def_ 26 (d := d_common_multiple) rfl
  refine ⟨fd, ?_, F.bindsN fun _ _ _ _ _ _ us hl => match us, hl with | [_, _], _ => rfl, F.kp, E.gl "common_multiple"⟩
  refine F.ok sc_common_multiple (fun vs H Q E' h => ?_) (fun cdv A outer s H vs Q E' hr h => ?_)
  · obtain ⟨x, y, rfl, _⟩ := h; rfl
  · have hu64 := hu64_of hr
    refine ⟨_, PSs.nox (pss_one (ps_ret (pe_op op_mul (pe_op op_fdiv (pv 0) (pe_G G_common_divisor (hr.mono (by decide)) rfl pass0 (pa_cons (pv 0) (pa_cons (pv 1) pa_nil)))) (pv 1)))), ?_⟩
    obtain ⟨x, y, rfl, h0, hx, hy, k⟩ := h
    have hg : 0 < Nat.gcd x y := Nat.gcd_pos_of_pos_left _ h0
    have hgx : Nat.gcd x y ≤ x := Nat.le_of_dvd h0 (Nat.gcd_dvd_left x y)
    have e : ((x : Int) / ((Nat.gcd x y : Nat) : Int)) * (y : Int) = ((lcmN x y : Nat) : Int) := by
      unfold lcmN
      rw [← Int.natCast_ediv, ← Int.natCast_mul]
    have hq : x / Nat.gcd x y ≤ x := Nat.div_le_self _ _
    have hq2 : (x : Int) / ((Nat.gcd x y : Nat) : Int) = ((x / Nat.gcd x y : Nat) : Int) := (Int.natCast_ediv x (Nat.gcd x y)).symm
    obtain ⟨q, hqe⟩ : ∃ q, x / Nat.gcd x y = q := ⟨_, rfl⟩
    rw [hqe] at hq hq2
    refine ⟨_, rfl, _, rfl, _, rfl, x, y, rfl, _, _, rfl, rfl, ⟨by omega, by omega⟩, _, rfl, _, _, rfl, rfl, .inl ⟨?_, ?_⟩, ?_⟩
    · show -(2 ^ 64) < (x : Int) / ((Nat.gcd x y : Nat) : Int)
      rw [hq2]; omega
    · show (x : Int) / ((Nat.gcd x y : Nat) : Int) < 2 ^ 64
      rw [hq2]; omega
    · rw [← e] at k
      exact k

/-! ### Program.modulus -/
def sp_Program_modulus (K : PySem.W.Frag) : Sp := fun vs H Q _ => ∃ (a : Addr) (us : List V) (ls : List Lin), vs = [.ref a] ∧ ProgAt K H a us ls ∧ Q (.int ((modL ls : Nat) : Int)) H

theorem sc_Program_modulus : FnScope ["self", "found", "line"] ["self"] (defScope s_Program_modulus) := ⟨rfl, rfl, rfl, by decide +kernel, rfl, by decide +kernel, by decide +kernel⟩
theorem ok_Program_modulus (E : En K mg) (G_common_multiple : Good P w K mg base CX0 2 "common_multiple" ["one", "other"] (sp_common_multiple K)) : GoodM P w K mg base CX0 3 (He5.wf K (He.ga K "Program") "property" "modulus") ["self"] (sp_Program_modulus K) := by
  obtain ⟨fd, F⟩ := E.saysA.def_ 1 (d := d_Program_modulus) rfl
  refine ⟨fd, ?_, F.bindsN fun _ _ _ _ _ _ us hl => match us, hl with | [_], _ => rfl⟩
  refine F.ok sc_Program_modulus (fun vs H Q E' h => ?_) (fun cdv A outer s H vs Q E' hr h => ?_)
  · obtain ⟨a, us, ls, rfl, _⟩ := h; rfl
  · have hu64 := hu64_of hr
    refine ⟨_, PSs.nox (pss_cons (ps_set (i := 1) sc_Program_modulus.nd rfl (by first | exact Or.inl rfl | exact Or.inr rfl) pe_int)
      (pss_cons (ps_for PassesOwn.never rfl (pi_tup (pe_fld (pv 0) (by rfl))) (pg_name (i := 2) sc_Program_modulus.nd rfl (by first | exact Or.inl rfl | exact Or.inr rfl))
        (pss_one (ps_if (PW.pt (pw_and (pt_cmpR op_eq (pe_ix ix_tup (pv 2) pe_int (fun _ _ => rfl)) pe_str (nomark _)) (pw_and1 (pt_cmpR op_eq (pe_ix ix_tup (pe_ix ix_tup (pv 2) pe_int (fun _ _ => rfl)) pe_int (fun _ _ => rfl)) pe_str (nomark _)))))
        (pss_one (ps_set (i := 1) sc_Program_modulus.nd rfl (by first | exact Or.inl rfl | exact Or.inr rfl) (pe_G G_common_multiple (hr.mono (by decide)) rfl pass0 (pa_cons (pv 1) (pa_cons (pe_ix ix_tup (pe_ix ix_tup (pv 2) pe_int (fun _ _ => rfl)) pe_int (fun _ _ => rfl)) pa_nil)))))
        pss_nil)))
      (pss_one (ps_ret (pv 1))))), ?_⟩
    obtain ⟨a, us, ls, rfl, hP, k⟩ := h
    obtain ⟨dx, rp, h1, h2, h3⟩ := hP.ex
    have hl := hP.len
    refine ⟨_, rfl, a, _, dx, _, _, rfl, h1, En.cls_Program E, En.noat_Program_rows E, rfl, rp, rfl, ⟨_, h3⟩, for_tup (K := K) (a := rp) (xs := us) (fun i σ H' => H' = H ∧ ∃ s2 : Option V, σ = [some (.ref a), some (.int ((modL (ls.take i) : Nat) : Int)), s2]) ⟨rfl, _, rfl⟩ (fun _ σ H' _ q => by rw [q.1]; exact h3) ?_ ?_⟩
    · rintro i z σ H' hz ⟨rfl, s2, rfl⟩
      obtain ⟨l, hx, hv⟩ := lin_at hP.dp hz
      have hok := hP.ok l (List.mem_of_getElem? hx)
      have hm6 := modL_6 (ls := ls.take i) fun x hx => hP.ok x (List.mem_of_mem_take hx)
      have es : modL (ls.take (i + 1)) = modU (modL (ls.take i)) l := by
        unfold modL
        rw [List.take_add_one, hx, Option.toList_some, List.foldl_append]
        rfl
      rw [es]
      generalize modL (ls.take i) = m at *
      obtain ⟨b, ws, rfl, hS, hB⟩ := Dp.lin hv
      have stay : modU m l = m → H' = H' ∧ ∃ s2 : Option V, [some (V.ref a), some (V.int (m : Int)), some (V.ref b)] = [some (V.ref a), some (V.int ((modU m l : Nat) : Int)), s2] := fun e => ⟨rfl, _, by rw [e]⟩
      refine ⟨_, rfl, b, _, _, _, rfl, rfl, hS, at_0 _ _, rfl, _, rfl, ?_⟩
      cases l with
      | test t tg =>
        refine ite_t (Lin.w_is (.test t tg) 3) ?_
        obtain ⟨u1, u2, rfl, g1, g2⟩ := DpAll.two' hB
        obtain ⟨c, w2, rfl, hT, hC⟩ := Dp.tst g1
        refine ⟨_, rfl, b, _, _, _, rfl, rfl, hS, at_1 _ _ _, c, _, _, _, rfl, rfl, hT, at_0 _ _, rfl, _, rfl, ?_⟩
        cases t with
        | rest ax m2 r =>
          refine ite_t (Tst.w_is (.rest ax m2 r) 5) ?_
          obtain ⟨x1, x2, x3, rfl, f1, f2, f3⟩ := DpAll.three' hC
          obtain rfl := Dp.intE f2
          have hm2 : m2 = 2 ∨ m2 = 3 := hok.1.1
          refine ⟨_, rfl, _, rfl, b, _, _, _, rfl, rfl, hS, at_1 _ _ _, c, _, _, _, rfl, rfl, hT, at_2 _ _ _ _, m, m2, rfl, ?_, ?_, ?_, rfl, some (.ref b), ?_⟩
          · unfold Mod6 at hm6; omega
          · unfold Mod6 at hm6; omega
          · omega
          · unfold Mod6 at hm6
            rcases hm6 with rfl | rfl | rfl | rfl <;> rcases hm2 with rfl | rfl <;> simp [modU] <;> decide
        | ord o => exact ite_f (by cases o <;> exact Tst.w_is _ 5) (stay rfl)
        | zero ax => exact ite_f (Tst.w_is _ 5) (stay rfl)
        | holds v n => exact ite_f (Tst.w_is _ 5) (stay rfl)
      | _ => exact ite_f (Lin.w_is _ 3) (stay rfl)
    rintro σ H' ⟨rfl, s2, rfl⟩
    rw [hl, List.take_length]
    exact ⟨_, rfl, k⟩

/-! ### _law_bag -/
/-- a new bag -/
def sp__law_bag (K : PySem.W.Frag) : Sp := fun vs H Q _ => ∃ (a : Addr) (ns : List Int), vs = [.ref a] ∧ SqL K H a (ns.map V.int) ∧ ns.length ≤ 63 ∧ ∀ (b : Addr) (H' : Hp), H b = none → Bag H' b → Same H H' → Q (.ref b) H'

theorem sc__law_bag : FnScope ["script", "salt", "cell"] ["script"] (defScope s__law_bag) := ⟨rfl, rfl, rfl, by decide +kernel, rfl, by decide +kernel, by decide +kernel⟩
theorem ok__law_bag (E : En K mg) : Good P w K mg base CX0 1 "_law_bag" ["script"] (sp__law_bag K) := by
  obtain ⟨fd, F⟩ := E.says.def_ 27 (d := d__law_bag) rfl
  refine ⟨fd, ?_, F.bindsN fun _ _ _ _ _ _ us hl => match us, hl with | [_], _ => rfl, F.kp, E.gl "_law_bag"⟩
  refine F.ok sc__law_bag (fun vs H Q E' h => ?_) (fun cdv A outer s H vs Q E' hr h => ?_)
  · obtain ⟨a, ns, rfl, _⟩ := h; rfl
  · have hu64 := hu64_of hr
    refine ⟨_, PSs.nox (pss_cons (ps_set (i := 1) sc__law_bag.nd rfl (by first | exact Or.inl rfl | exact Or.inr rfl) pe_int)
      (pss_cons (ps_for PassesOwn.never rfl (pi_list (pe_slice sl_list (pv 0) po_none (po_some pe_int))) (pg_name (i := 2) sc__law_bag.nd rfl (by first | exact Or.inl rfl | exact Or.inr rfl))
        (pss_one (ps_set (i := 1) sc__law_bag.nd rfl (by first | exact Or.inl rfl | exact Or.inr rfl) (pe_op op_mod (pe_callTy call_int1 (by rfl) (E.fr "int") (by decide +kernel) (pa_cons (pe_op op_add (pe_op op_add (pe_op op_mul (pv 1) pe_int) (pe_op op_mod (pe_callTy call_int1 (by rfl) (E.fr "int") (by decide +kernel) (pa_cons (pv 2) pa_nil)) pe_int)) pe_int) pa_nil)) pe_int))))
      (pss_one (ps_ret (pe_lst (pa_cons (pe_callTy call_list_of (by rfl) (E.fr "list") (by decide +kernel) (pa_cons (pe_slice sl_list (pv 0) po_none (po_some pe_int)) pa_nil)) (pa_cons pe_int (pa_cons pe_int (pa_cons (pv 1) pa_nil))))))))), ?_⟩
    obtain ⟨a, ns, rfl, hS, hl, k⟩ := h
    have hl' : (ns.map V.int).length ≤ 63 := by rw [List.length_map]; exact hl
    refine ⟨_, rfl, 63, rfl, a, _, rfl, hS, fun p hp => ?_⟩
    rw [cut63 hl']
    refine ⟨p, rfl, ⟨_, SqL.of upd_same⟩, for_list (K := K) (a := p) (xs := ns.map V.int) (fun i σ H' => ∃ (s : Int) (v : Option V), σ = [some (.ref a), some (.int s), v] ∧ 0 ≤ s ∧ s < 2147483647 ∧ Same (upd H p (.lst (ns.map V.int))) H')
      ⟨3828, none, rfl, by decide, by decide, Same.refl _⟩ (fun i σ H' _ ⟨_, _, _, _, _, e⟩ => SqL.of (e _ _ upd_same)) ?_ ?_⟩
    · rintro i x σ H' hx ⟨s, v, rfl, h0, h1, e⟩
      obtain ⟨z, rfl⟩ : ∃ z, x = V.int z := by
        rw [List.getElem?_map] at hx
        cases q : ns[i]? with
        | none => rw [q] at hx; cases hx
        | some z => rw [q] at hx; exact ⟨z, (Option.some.inj hx).symm⟩
      refine ⟨_, rfl, _, _, rfl, rfl, .inr ⟨by decide, by decide⟩, _, rfl, .inl ⟨_, rfl, _, _, rfl, rfl, (by show (0 : Int) < _; decide), _, _, rfl, rfl, _, _, rfl, rfl, .inl ⟨_, rfl, _, _, rfl, rfl, (by show (0 : Int) < _; decide), ?_⟩⟩⟩
      have q := emod_bd (s * 45053 + z % 2147483563 + 23) (m := 2147483647) (by decide)
      exact ⟨_, some (.int z), rfl, q.1, q.2, e⟩
    · rintro σ H' ⟨s, v, rfl, h0, h1, e⟩
      have e1 : Same H H' := fun b o q => e b o (by rw [upd_ne (ne_of_none q hp)]; exact q)
      refine ⟨_, rfl, 63, rfl, a, _, rfl, e1.seq hS, fun p2 hp2 => ?_⟩
      rw [cut63 hl']
      refine ⟨p2, _, rfl, .inl (SqL.of upd_same), fun p3 hp3 => ?_⟩
      refine ⟨_, rfl, (by show 4 ≤ sizeLine; decide), fun b hb => ?_⟩
      have n32 : p3 ≠ p2 := fun z => by rw [z, upd_same] at hp3; cases hp3
      have nb3 : b ≠ p3 := fun z => by rw [z, upd_same] at hb; cases hb
      have hp3' : H' p3 = none := by rw [upd_ne n32] at hp3; exact hp3
      have hb2 : (upd H' p2 (.lst (ns.map V.int))) b = none := by rw [upd_ne nb3] at hb; exact hb
      have e2 : Same H' (upd (upd (upd H' p2 (.lst (ns.map V.int))) p3 (.lst (ns.map V.int))) b (.lst [.ref p3, .int 0, .int 0, .int s])) :=
        (same_new hp2).trans ((same_new hp3).trans (same_new hb))
      refine k b _ ?_ ⟨p3, ns, 0, 0, s, upd_same, ?_, nb3, hl, by decide, by decide, h0, h1⟩ (e1.trans e2)
      · have z : H' b = none := Same.free (same_new hp2) hb2
        exact Same.free e1 z
      · rw [upd_ne nb3.symm, upd_same]

/-! ### law -/
def sp_law (K : PySem.W.Frag) : Sp := fun vs H Q _ => ∃ (a : Addr) (ns : List Int), vs = [.ref a] ∧ SqL K H a (ns.map V.int) ∧ ns.length ≤ 63 ∧ ∀ H', Q (.bl true) H'
theorem sp_law_holds {K : PySem.W.Frag} (H : Hp) (a : Addr) (ns : List Int) (hl : ns.length ≤ 63) (hS : SqL K H a (ns.map V.int)) : sp_law K [.ref a] H (fun v _ => v = .bl true) fun _ _ _ => False := ⟨a, ns, rfl, hS, hl, fun _ => rfl⟩
theorem inV_strs (z : Str) (ys : List Str) : inV (V.str z) (ys.map V.str) = decide (z ∈ ys) := by
  unfold inV
  induction ys with
  | nil => rfl
  | cons y ys ih =>
    rw [List.map_cons, List.any_cons, ih]
    show (y == z || decide (z ∈ ys)) = _
    by_cases c : y = z
    · subst c
      simp
    · have e : (y == z) = false := by simpa using c
      have e2 : ¬ z = y := fun q => c q.symm
      rw [e, Bool.false_or]
      simp [e2]
theorem strs_flat (ys : List Str) : (ys.map V.str).all flatV = true := by
  rw [List.all_map]
  exact List.all_eq_true.mpr fun _ _ => rfl
theorem stops_step {ls : List Lin} {i : Nat} {l : Lin} (hx : ls[i]? = some l) : stopsL (ls.take (i + 1)) = stopsL (ls.take i) ++ (stopZ l).toList := by
  unfold stopsL
  rw [List.take_add_one, hx, Option.toList_some, List.filterMap_append]
  congr 1
theorem mods_step {ls : List Lin} {i : Nat} {l : Lin} (hx : ls[i]? = some l) : modL (ls.take (i + 1)) = modU (modL (ls.take i)) l := by
  unfold modL
  rw [List.take_add_one, hx, Option.toList_some, List.foldl_append]
  rfl
theorem outs_a : OutsOf [.stop "a"] ["a", "below", "end"] := by
  refine ⟨by decide +kernel, fun z => ?_, by decide +kernel⟩
  show z ∈ ([("a" : Str), "below", "end"]) ↔ z = "below" ∨ z = "end" ∨ z ∈ [("a" : Str)]
  simp only [List.mem_cons, List.not_mem_nil, or_false]
  constructor
  · rintro (h | h | h)
    · exact .inr (.inr h)
    · exact .inl h
    · exact .inr (.inl h)
  · rintro (h | h | h)
    · exact .inr (.inl h)
    · exact .inr (.inr h)
    · exact .inl h
/-- what the names of a law's loop are -/
structure Nms (ls : List Lin) (i : Nat) (ys : List Str) : Prop where
  nd : ys.Nodup
  len : ys.length ≤ i + 2
  mem : ∀ z, z ∈ ys ↔ z = "below" ∨ z = "end" ∨ z ∈ stopsL (ls.take i)
theorem Nms.zero (ls : List Lin) : Nms ls 0 ["below", "end"] := ⟨by decide +kernel, by decide, fun z => by
  show _ ↔ z = "below" ∨ z = "end" ∨ z ∈ ([] : List Str)
  simp⟩
theorem Nms.old {ls : List Lin} {i : Nat} {ys : List Str} {l : Lin} (h : Nms ls i ys) (hx : ls[i]? = some l) (ho : ∀ z, stopZ l = some z → z ∈ ys) : Nms ls (i + 1) ys := ⟨h.nd, by have := h.len; omega, fun z => by
  rw [stops_step hx, List.mem_append, h.mem z]
  constructor
  · rintro (q | q | q)
    · exact .inl q
    · exact .inr (.inl q)
    · exact .inr (.inr (.inl q))
  · rintro (q | q | q | q)
    · exact .inl q
    · exact .inr (.inl q)
    · exact .inr (.inr q)
    · cases e : stopZ l with
      | none =>
        rw [e] at q
        cases q
      | some y =>
        rw [e, Option.toList_some, List.mem_singleton] at q
        rw [q]
        exact (h.mem y).mp (ho y e)⟩
theorem Nms.new {ls : List Lin} {i : Nat} {ys : List Str} {y : Str} (h : Nms ls i ys) (hx : ls[i]? = some (.stop y)) (ho : y ∉ ys) : Nms ls (i + 1) (ys ++ [y]) := ⟨List.nodup_append.mpr ⟨h.nd, List.nodup_cons.mpr ⟨List.not_mem_nil, List.nodup_nil⟩, fun a ha c hc e => by
  rw [List.mem_singleton.mp hc] at e
  exact ho (by rw [← e]; exact ha)⟩, by have := h.len; rw [List.length_append]; show ys.length + 1 ≤ _; omega, fun z => by
  rw [stops_step hx, List.mem_append, List.mem_append, h.mem z]
  show _ ↔ z = "below" ∨ z = "end" ∨ z ∈ stopsL (ls.take i) ∨ z ∈ [y]
  constructor
  · rintro ((q | q | q) | q)
    · exact .inl q
    · exact .inr (.inl q)
    · exact .inr (.inr (.inl q))
    · exact .inr (.inr (.inr q))
  · rintro (q | q | q | q)
    · exact .inl (.inl q)
    · exact .inl (.inr (.inl q))
    · exact .inl (.inr (.inr q))
    · exact .inr q⟩
theorem Nms.outs {ls : List Lin} {ys zs : List Str} (h : Nms ls ls.length ys) (p : zs.Perm ys) (s : sortedS zs = true) : OutsOf ls zs := by
  refine ⟨p.nodup_iff.mpr h.nd, fun z => ?_, s⟩
  have := h.mem z
  rw [List.take_length] at this
  rw [p.mem_iff, this]

theorem sc_law : FnScope ["script", "bag", "turn", "rows", "one", "names", "size", "row", "due", "more"] ["script"] (defScope s_law) := ⟨rfl, rfl, rfl, by decide +kernel, rfl, by decide +kernel, by decide +kernel⟩
theorem ok_law {fd : FuncData} (F : FunD K "law" "law" (defArgs s_law) (defBody s_law) (defScope s_law) [] [] (He.ga K "law") fd) (E : En K mg) (G_Program___len__ : GoodM P w K mg base CX0 1 (He.ma K (He.ga K "Program") "__len__") ["self"] (sp_Program___len__ K)) (G_Program___repr__ : GoodM P w K mg base CX0 1 (He.ma K (He.ga K "Program") "__repr__") ["self"] (sp_Program___repr__ K)) (G_Program_outcomes : GoodM P w K mg base CX0 1 (He.ma K (He.ga K "Program") "outcomes") ["self"] (sp_Program_outcomes K)) (G_Program___init__ : FnR P w K mg base CX0 5 (He.ma K (He.ga K "Program") "__init__") (sp_Program___init__ K)) (G_Program___eq__n : GoodM P w K mg base CX0 1 (He.ma K (He.ga K "Program") "__eq__") ["self", "other"] (sp_Program___eq__n K)) (G_Program___eq__ : GoodM P w K mg base CX0 1 (He.ma K (He.ga K "Program") "__eq__") ["self", "other"] (sp_Program___eq__ K)) (G__law_program : Good P w K mg base CX0 7 "_law_program" ["lines"] (sp__law_program K)) (G__law_lines : Good P w K mg base CX0 5 "_law_lines" ["bag", "top_z", "kinds"] (sp__law_lines K)) (G__law_same : Good P w K mg base CX0 12 "_law_same" ["found", "due"] (sp__law_same K)) (G_Program_lines : GoodM P w K mg base CX0 1 (He.ma K (He.ga K "Program") "lines") ["self"] (sp_Program_lines K)) (G_Program_single : GoodM P w K mg base CX0 1 (He5.wf K (He.ga K "Program") "property" "single") ["self"] (sp_Program_single K)) (G_Program_modulus : GoodM P w K mg base CX0 3 (He5.wf K (He.ga K "Program") "property" "modulus") ["self"] (sp_Program_modulus K)) (G__law_bag : Good P w K mg base CX0 1 "_law_bag" ["script"] (sp__law_bag K)) : FnOk P w K mg base CX0 13 (He.ga K "law") fd ["script"] (sp_law K) := by
  refine F.ok sc_law (fun vs H Q E' h => ?_) (fun cdv A outer s H vs Q E' hr h => ?_)
  · obtain ⟨a, ns, rfl, _⟩ := h; rfl
  · have hu64 := hu64_of hr
    refine ⟨_, PSs.nox (pss_cons (ps_set (i := 1) sc_law.nd rfl (by first | exact Or.inl rfl | exact Or.inr rfl) (pe_G G__law_bag (hr.mono (by decide)) rfl pass0 (pa_cons (pv 0) pa_nil)))
      (pss_cons (ps_for PassesOwn.never rfl (pi_range1 (by rfl) (E.fr "range") (pa_cons pe_int pa_nil)) (pg_name (i := 2) sc_law.nd rfl (by first | exact Or.inl rfl | exact Or.inr rfl))
        (pss_cons (ps_set (i := 3) sc_law.nd rfl (by first | exact Or.inl rfl | exact Or.inr rfl) (pe_G G__law_lines (hr.mono (by decide)) rfl pass0 (pa_cons (pv 1) (pa_cons pe_int (pa_cons pe_str pa_nil)))))
      (pss_cons (ps_set (i := 4) sc_law.nd rfl (by first | exact Or.inl rfl | exact Or.inr rfl) (pe_G G__law_program (hr.mono (by decide)) rfl pass0 (pa_cons (pv 3) pa_nil)))
      (pss_cons (ps_par (i := 5) (j := 6) rfl sc_law.nd rfl rfl (by decide) rfl rfl (pa_cons (pe_lst (pa_cons pe_str (pa_cons pe_str pa_nil))) (pa_cons pe_int pa_nil)) rfl)
      (pss_cons (ps_for PassesOwn.never rfl (pi_list (pv 3)) (pg_name (i := 7) sc_law.nd rfl (by first | exact Or.inl rfl | exact Or.inr rfl))
        (pss_cons (ps_if (PW.pt (pw_and (pt_cmpR op_eq (pe_ix ix_tup (pv 7) pe_int (fun _ _ => rfl)) pe_str (nomark _)) (pw_and1 (pt_cmpR op_notIn_seq (pe_ix ix_tup (pv 7) pe_int (fun _ _ => rfl)) (pv 5) (by rfl)))))
        (pss_one (ps_expr (pe_bm PySem.F.plainAttrs_list PySem.F.slot_list_append PySem.F.type_list_append mt_append (pv 5) (pa_cons (pe_ix ix_tup (pv 7) pe_int (fun _ _ => rfl)) pa_nil))))
        pss_nil)
      (pss_one (ps_if (PW.pt (pw_and (pt_cmpR op_eq (pe_ix ix_tup (pv 7) pe_int (fun _ _ => rfl)) pe_str (nomark _)) (pw_and (pt_cmpR op_eq (pe_ix ix_tup (pe_ix ix_tup (pv 7) pe_int (fun _ _ => rfl)) pe_int (fun _ _ => rfl)) pe_str (nomark _)) (pw_and1 (pt_cmpR op_gt (pe_op op_mod (pe_callTy call_int1 (by rfl) (E.fr "int") (by decide +kernel) (pa_cons (pv 6) pa_nil)) (pe_ix ix_tup (pe_ix ix_tup (pv 7) pe_int (fun _ _ => rfl)) pe_int (fun _ _ => rfl))) pe_int (nomark _))))))
        (pss_one (ps_set (i := 6) sc_law.nd rfl (by first | exact Or.inl rfl | exact Or.inr rfl) (pe_op op_mul (pv 6) (pe_ix ix_tup (pe_ix ix_tup (pv 7) pe_int (fun _ _ => rfl)) pe_int (fun _ _ => rfl)))))
        pss_nil))))
      (pss_cons (ps_set (i := 8) sc_law.nd rfl (by first | exact Or.inl rfl | exact Or.inr rfl) (pe_lst (pa_cons (pv 3) (pa_cons (pe_callB cr_sortedS (by rfl) (E.fr "sorted") (by decide +kernel) (pa_cons (pv 5) pa_nil)) (pa_cons (pv 6) (pa_cons (pe_callB (cr_all rfl) (by rfl) (E.fr "all") (by decide +kernel) (pa_cons (pe_lc (own := [("row", 7)]) (by rfl) sc_law.nd (pi_list (pv 3)) (blkOk_by (N := ["script", "bag", "turn", "rows", "one", "names", "size", "row", "due", "more"]) (sc := defScope s_law) (by decide +kernel)) (by exact fun _ _ _ _ _ => (pg_name (i := 7) sc_law.nd rfl (by first | exact Or.inl rfl | exact Or.inr rfl))) (by exact fun _ _ _ _ _ => pts_nil) (by exact fun _ _ _ _ _ => (pe_cmpR op_ne (pe_ix (show IxR _ (rIxT K) from ix_tup) (pv 7) pe_int (fun _ _ => rfl)) pe_str (nomark _)))) pa_nil)) (pa_cons (pe_callB call_len_seq (by rfl) (E.fr "len") (by decide +kernel) (pa_cons (pv 3) pa_nil)) pa_nil)))))))
      (pss_cons (ps_if (pt_not (pt_val (pe_G G__law_same (hr.mono (by decide)) rfl pass0 (pa_cons (pe_lst (pa_cons (pe_mG0 (pv 4) (En.cls_Program E) (En.meth_Program_lines E) G_Program_lines (hr.mono (by decide)) pass0) (pa_cons (pe_mG0 (pv 4) (En.cls_Program E) (En.meth_Program_outcomes E) G_Program_outcomes (hr.mono (by decide)) pass0) (pa_cons (pe_propG (pv 4) (En.cls_Program E) (En.prop_Program_modulus E) G_Program_modulus (hr.mono (by decide)) pass0 rfl) (pa_cons (pe_propG (pv 4) (En.cls_Program E) (En.prop_Program_single E) G_Program_single (hr.mono (by decide)) pass0 rfl) (pa_cons (pe_callB (cr_lenI (En.meth_Program___len__ E) (GoodM.raw G_Program___len__) (hr.mono (by decide)) pass0) (by rfl) (E.fr "len") (by decide +kernel) (pa_cons (pv 4) pa_nil)) pa_nil)))))) (pa_cons (pv 8) pa_nil)))))
        (pss_one (ps_ret pe_bl))
        pss_nil)
      (pss_cons (ps_expr (pe_bm0 PySem.F.plainAttrs_list PySem.F.slot_list_clear PySem.F.type_list_clear mt_clear (pe_mG0 (pv 4) (En.cls_Program E) (En.meth_Program_lines E) G_Program_lines (hr.mono (by decide)) pass0)))
      (pss_cons (ps_expr (pe_bm PySem.F.plainAttrs_list PySem.F.slot_list_append PySem.F.type_list_append mt_append (pe_mG0 (pv 4) (En.cls_Program E) (En.meth_Program_outcomes E) G_Program_outcomes (hr.mono (by decide)) pass0) (pa_cons pe_str pa_nil)))
      (pss_cons (ps_if (PW.pt (pw_or (pt_not (pt_val (pe_G G__law_same (hr.mono (by decide)) rfl pass0 (pa_cons (pe_lst (pa_cons (pe_mG0 (pv 4) (En.cls_Program E) (En.meth_Program_lines E) G_Program_lines (hr.mono (by decide)) pass0) (pa_cons (pe_mG0 (pv 4) (En.cls_Program E) (En.meth_Program_outcomes E) G_Program_outcomes (hr.mono (by decide)) pass0) pa_nil))) (pa_cons (pe_slice sl_list (pv 8) po_none (po_some pe_int)) pa_nil))))) (pw_or1 (pt_cmpR op_ne (pe_callB (cr_reprI (En.meth_Program___repr__ E) (GoodM.raw G_Program___repr__) (hr.mono (by decide)) pass0) (by rfl) (E.fr "repr") (by decide +kernel) (pa_cons (pv 4) pa_nil)) (pe_op op_add_str (pe_op op_add_str pe_str (pe_callTy call_str_int (by rfl) (E.fr "str") (by decide +kernel) (pa_cons (pe_callB call_len_seq (by rfl) (E.fr "len") (by decide +kernel) (pa_cons (pv 3) pa_nil)) pa_nil))) pe_str) (nomark _)))))
        (pss_one (ps_ret pe_bl))
        pss_nil)
      (pss_cons (ps_set (i := 9) sc_law.nd rfl (by first | exact Or.inl rfl | exact Or.inr rfl) (pe_G G__law_lines (hr.mono (by decide)) rfl pass0 (pa_cons (pv 1) (pa_cons pe_int (pa_cons pe_str pa_nil)))))
      (pss_one (ps_if (PW.pt (pw_or (pt_cmpR op_ne (pe_cmpR (op_eqC (hu1 hu64) (En.meth_Program___eq__ E) (GoodM.raw G_Program___eq__) (hr.mono (by decide)) pass0) (pv 4) (pe_G G__law_program (hr.mono (by decide)) rfl pass0 (pa_cons (pv 9) pa_nil)) (nomark _)) (pe_cmpR (op_eqD hu64) (pv 3) (pv 9) (nomark _)) (nomark _)) (pw_or (pt_not (pt_cmpR (op_eqC (hu1 hu64) (En.meth_Program___eq__ E) (GoodM.raw G_Program___eq__) (hr.mono (by decide)) pass0) (pv 4) (pe_G G__law_program (hr.mono (by decide)) rfl pass0 (pa_cons (pv 3) pa_nil)) (nomark _))) (pw_or1 (pt_cmpR (op_inOwn (En.meth_Program___eq__ E) (En.nokin_Program E) (GoodM.raw G_Program___eq__n) (hr.mono (by decide)) pass0) (pv 4) (pe_lst (pa_cons pe_non (pa_cons (pv 3) pa_nil))) (by rfl))))))
        (pss_one (ps_ret pe_bl))
        pss_nil)))))))))))))
      (pss_one (ps_ret (pe_and (pe_cmpR op_eq (ClX.pe_cval (pe_glob rfl (E.gl "Program") (show RelV (V.ref (He.ga K "Program")) _ from rfl))) pe_int (nomark _)) (pe_one (pe_cmpR (op_eqD hu64) (pe_mG0 (StX.pe_makeR (En.mkr_Program E) G_Program___init__ (hr.mono (by decide)) rfl (E.gl "Program") pass0 (pa_cons (pe_tup (pa_cons pe_str (pa_cons pe_str pa_nil))) pa_nil)) (En.cls_Program E) (En.meth_Program_outcomes E) G_Program_outcomes (hr.mono (by decide)) pass0) (pe_lst (pa_cons pe_str (pa_cons pe_str (pa_cons pe_str pa_nil)))) (nomark _)))))))), ?_⟩
    obtain ⟨a, ns, rfl, hS, hl, k⟩ := h
    have z1 : 1 ≤ sizeLine := by decide
    have z2 : 2 ≤ sizeLine := by decide
    have z3 : 3 ≤ sizeLine := by decide
    have z5 : 5 ≤ sizeLine := by decide
    have z9 : (1000 : Nat) ≤ sizeLine := by decide
    refine ⟨_, rfl, a, ns, rfl, hS, hl, fun b H1 hb B e1 => ?_⟩
    refine ⟨8, rfl, by decide, by decide, for_range (lo := 0) (n := 8) (fun _ σ H' => ∃ s2 s3 s4 s5 s6 s7 s8 s9 : Option V, σ = [some (.ref a), some (.ref b), s2, s3, s4, s5, s6, s7, s8, s9] ∧ Bag H' b) ⟨_, _, _, _, _, _, _, _, rfl, B⟩ ?_ ?_⟩
    rotate_left
    · rintro σ H2 ⟨_, _, _, _, _, _, _, _, rfl, B2⟩
      obtain ⟨t60, c60⟩ := En.cint_Program_MAX_LINES E
      refine ⟨_, _, _, _, rfl, En.cread_Program E, c60, rfl, _, rfl, ite_t rfl ?_⟩
      refine ⟨z2, fun t1 ht1 => fun x dx hx hdx hn => ?_⟩
      have et := same_new (o := .tup [V.str "stop", .str "a"]) ht1
      have hv : DpAll K (upd H2 t1 (.tup [V.str "stop", .str "a"])) [.ref t1] ([Lin.stop "a"].map Lin.d) := .cons (.tup (SqT.of upd_same) (.cons (.str _) (.cons (.str _) .nil))) .nil
      refine prog_makeX (ls := [Lin.stop "a"]) hv (by intro x hx; rw [List.mem_singleton.mp hx]; exact ⟨by decide +kernel, by decide +kernel⟩) (by decide) (by decide) hx hdx hn fun H3 e3 P => ?_
      obtain ⟨dxp, rp, hip, _, _⟩ := P.ex
      refine ⟨x, dxp, _, rfl, hip, rfl, x, _, _, rfl, P, fun ys q H4 ho e4 n4 hq => ?_⟩
      obtain rfl := ho.uniq outs_a
      refine ⟨z3, fun r hr2 => ?_⟩
      refine ⟨.list ([("a" : Str), "below", "end"].map PyData.str), .list ([("a" : Str), "below", "end"].map PyData.str), .lst (SqL.of ((same_new hr2) _ _ hq)) (strs_dp _ _ _), .lst (SqL.of upd_same) (strs_dp _ _ [("a" : Str), "below", "end"]), by decide +kernel, by decide +kernel, k _⟩
    rintro i0 σ H2 _ ⟨s2, s3, s4, s5, s6, s7, s8, s9, rfl, B2⟩
    refine ⟨_, rfl, b, 8, _, rfl, B2, by decide, by decide, fun l us ls H3 hlH hL3 hA3 l0 l8 hok B3 k3 => ?_⟩
    refine ⟨_, rfl, l, us, ls, rfl, hL3, hA3, hok, l0, l8, fun p H4 e4 P => ?_⟩
    have B := B3.keep e4
    have hL := e4 _ _ hL3
    have hA := Dp.sameAll e4 hA3
    have nlb : l ≠ b := B2.ne hlH
    clear B2 B3 hL3 hA3 hlH k3 e4 e1
    have hul : us.length = ls.length := P.len
    refine ⟨z2, fun nm hnm => ⟨_, _, rfl, ?_⟩⟩
    refine ⟨_, rfl, l, rfl, ⟨_, SqL.of ((same_new hnm) _ _ hL)⟩, for_list (K := K) (a := l) (xs := us) (fun i σ H' => ∃ (ys : List Str) (s7 : Option V), σ = [some (.ref a), some (.ref b), some (.int (0 + (i0 : Int))), some (.ref l), some (.ref p), some (.ref nm), some (.int ((modL (ls.take i) : Nat) : Int)), s7, s8, s9] ∧ Same H4 H' ∧ H' nm = some (.lst (ys.map V.str)) ∧ Nms ls i ys)
      ⟨["below", "end"], _, rfl, same_new hnm, upd_same, Nms.zero ls⟩ (fun _ σ H' _ ⟨_, _, _, e, _⟩ => SqL.of (e _ _ hL)) ?_ ?_⟩
    · rintro i z σ H5 hz ⟨ys, s7, rfl, e5, hN, nms⟩
      obtain ⟨x, hx, hv⟩ := lin_at hA hz
      have xok := hok x (List.mem_of_getElem? hx)
      have hm6 := modL_6 (ls := ls.take i) fun x hx => hok x (List.mem_of_mem_take hx)
      have il : i < ls.length := (List.getElem?_eq_some_iff.mp hx).1
      obtain ⟨rb, ws, rfl, hS5, hB5⟩ := Dp.lin (Dp.same e5 hv)
      have lN := nms.len
      refine ⟨_, rfl, rb, _, _, _, rfl, rfl, hS5, at_0 _ _, rfl, _, rfl, ?_⟩
      have skip : ∀ (s7 : Option V), modU (modL (ls.take i)) x = modL (ls.take i) → stopZ x = none → ∃ (ys : List Str) (s7' : Option V), [some (V.ref a), some (.ref b), some (.int (0 + (i0 : Int))), some (.ref l), some (.ref p), some (.ref nm), some (.int ((modL (ls.take i) : Nat) : Int)), s7, s8, s9] = [some (V.ref a), some (.ref b), some (.int (0 + (i0 : Int))), some (.ref l), some (.ref p), some (.ref nm), some (.int ((modL (ls.take (i + 1)) : Nat) : Int)), s7', s8, s9] ∧ Same H4 H5 ∧ H5 nm = some (.lst (ys.map V.str)) ∧ Nms ls (i + 1) ys := fun s7 e1 e2 =>
        ⟨ys, s7, by rw [mods_step hx, e1], e5, hN, nms.old hx fun z hz => by rw [e2] at hz; cases hz⟩
      cases x with
      | stop y =>
        refine ite_t (Lin.w_is (.stop y) 6) ?_
        obtain ⟨u1, rfl, g1⟩ := DpAll.one' hB5
        obtain rfl := Dp.strE g1
        refine ⟨_, rfl, rb, _, _, _, rfl, rfl, hS5, at_1 _ _ _, _, rfl, nm, _, rfl, .inl (SqL.of hN), rfl, strs_flat ys, _, rfl, ?_⟩
        by_cases c : y ∈ ys
        · refine ite_f (by rw [inV_strs, decide_eq_true c]; rfl) ⟨_, rfl, rb, _, _, _, rfl, rfl, hS5, at_0 _ _, rfl, _, rfl, ite_f (Lin.w_is (.stop y) 3) ?_⟩
          exact ⟨ys, _, by rw [mods_step hx]; rfl, e5, hN, nms.old hx fun z hz => by cases hz; exact c⟩
        · refine ite_t (by rw [inV_strs, decide_eq_false c]; rfl) ⟨_, rfl, .inl ⟨rfl, _, SqL.of hN⟩, _, rfl, rb, _, _, _, rfl, rfl, hS5, at_1 _ _ _, nm, _, _, rfl, rfl, hN, by rw [List.length_map]; omega, ?_⟩
          have e6 := same_mut (o := .lst (ys.map V.str ++ [V.str y])) e5 hnm
          obtain ⟨rb2, ws2, eq, hS6, _⟩ := Dp.lin (Dp.same e6 hv)
          cases eq
          refine ⟨_, rfl, rb, _, _, _, rfl, rfl, hS6, at_0 _ _, rfl, _, rfl, ite_f (Lin.w_is (.stop y) 3) ?_⟩
          exact ⟨ys ++ [y], _, by rw [mods_step hx]; rfl, e6, by rw [upd_same, List.map_append]; rfl, nms.new hx c⟩
      | test t tg =>
        refine ite_f (Lin.w_is _ 6) ⟨_, rfl, rb, _, _, _, rfl, rfl, hS5, at_0 _ _, rfl, _, rfl, ite_t (Lin.w_is (.test t tg) 3) ?_⟩
        obtain ⟨u1, u2, rfl, g1, g2⟩ := DpAll.two' hB5
        obtain ⟨c, w2, rfl, hT, hC⟩ := Dp.tst g1
        refine ⟨_, rfl, rb, _, _, _, rfl, rfl, hS5, at_1 _ _ _, c, _, _, _, rfl, rfl, hT, at_0 _ _, rfl, _, rfl, ?_⟩
        cases t with
        | rest ax m2 r =>
          refine ite_t (Tst.w_is (.rest ax m2 r) 5) ?_
          obtain ⟨x1, x2, x3, rfl, f1, f2, f3⟩ := DpAll.three' hC
          obtain rfl := Dp.intE f2
          have hm2 : m2 = 2 ∨ m2 = 3 := xok.1.1
          have fin : ∀ (m' : Nat) (s7 : Option V), m' = modU (modL (ls.take i)) (.test (.rest ax m2 r) tg) → ∃ (ys : List Str) (s7' : Option V), [some (V.ref a), some (.ref b), some (.int (0 + (i0 : Int))), some (.ref l), some (.ref p), some (.ref nm), some (.int ((m' : Nat) : Int)), s7, s8, s9] = [some (V.ref a), some (.ref b), some (.int (0 + (i0 : Int))), some (.ref l), some (.ref p), some (.ref nm), some (.int ((modL (ls.take (i + 1)) : Nat) : Int)), s7', s8, s9] ∧ Same H4 H5 ∧ H5 nm = some (.lst (ys.map V.str)) ∧ Nms ls (i + 1) ys := fun m' s7 e =>
            ⟨ys, s7, by rw [mods_step hx, e], e5, hN, nms.old hx fun z hz => by cases hz⟩
          generalize modL (ls.take i) = m at *
          refine ⟨_, rfl, .inl ⟨_, rfl, _, rfl, rb, _, _, _, rfl, rfl, hS5, at_1 _ _ _, c, _, _, _, rfl, rfl, hT, at_2 _ _ _ _, _, _, rfl, rfl, (by show (0 : Int) < (m2 : Int); omega), _, _, rfl, rfl, _, rfl, ?_⟩⟩
          refine ite2 (fun cc => ?_) (fun cc => ?_)
          · have cc : (m : Int) % (m2 : Int) > 0 := of_decide_eq_true cc
            refine ⟨_, rfl, _, rfl, rb, _, _, _, rfl, rfl, hS5, at_1 _ _ _, c, _, _, _, rfl, rfl, hT, at_2 _ _ _ _, _, _, rfl, rfl, (by unfold Mod6 at hm6; exact .inl ⟨by omega, by omega⟩), fin (m * m2) _ ?_⟩
            show m * m2 = if m % m2 = 0 then m else m * m2
            rw [if_neg (by omega)]
          · have cc : ¬ (m : Int) % (m2 : Int) > 0 := of_decide_eq_false (by simpa using cc)
            refine fin m _ ?_
            show m = if m % m2 = 0 then m else m * m2
            rw [if_pos (by omega)]
        | ord o => exact ite_f (by cases o <;> exact Tst.w_is _ 5) (skip _ rfl rfl)
        | zero ax => exact ite_f (Tst.w_is _ 5) (skip _ rfl rfl)
        | holds v n => exact ite_f (Tst.w_is _ 5) (skip _ rfl rfl)
      | add ax => exact ite_f (Lin.w_is _ 6) ⟨_, rfl, rb, _, _, _, rfl, rfl, hS5, at_0 _ _, rfl, _, rfl, ite_f (Lin.w_is _ 3) (skip _ rfl rfl)⟩
      | take ax => exact ite_f (Lin.w_is _ 6) ⟨_, rfl, rb, _, _, _, rfl, rfl, hS5, at_0 _ _, rfl, _, rfl, ite_f (Lin.w_is _ 3) (skip _ rfl rfl)⟩
      | set v n => exact ite_f (Lin.w_is _ 6) ⟨_, rfl, rb, _, _, _, rfl, rfl, hS5, at_0 _ _, rfl, _, rfl, ite_f (Lin.w_is _ 3) (skip _ rfl rfl)⟩
      | choose n => exact ite_f (Lin.w_is _ 6) ⟨_, rfl, rb, _, _, _, rfl, rfl, hS5, at_0 _ _, rfl, _, rfl, ite_f (Lin.w_is _ 3) (skip _ rfl rfl)⟩
      | go n => exact ite_f (Lin.w_is _ 6) ⟨_, rfl, rb, _, _, _, rfl, rfl, hS5, at_0 _ _, rfl, _, rfl, ite_f (Lin.w_is _ 3) (skip _ rfl rfl)⟩
    rintro σ H5 ⟨ys, s7, rfl, e5, hN, nms⟩
    rw [hul] at nms
    have esz : modL (ls.take us.length) = modL ls := by rw [hul, List.take_length]
    rw [esz]
    -- due
    have lys := nms.len
    refine ⟨_, rfl, _, rfl, nm, ys, rfl, SqL.of hN, by omega, fun zs q perm so hq => ⟨_, rfl, _, rfl, l, rfl, ⟨_, SqL.of ((e5.trans (same_new hq)) _ _ hL)⟩, fun D hD0 => ?_⟩⟩
    have eq := same_new (o := .lst (zs.map V.str)) hq
    have hZ := upd_same (a := q) (o := HO.lst (zs.map V.str)) (H := H5)
    have e6 := e5.trans eq
    generalize upd H5 q _ = H6 at *
    refine lc_list (K := K) (a := l) (xs := us) (fun i H' => Same H6 H' ∧ H' D = some (.lst (((ls.take i).map fun x => !isCh x).map V.bl))) ⟨same_new hD0, upd_same⟩ (fun i H' _ q => SqL.of (q.1 _ _ (e6 _ _ hL))) ?_ ?_
    · rintro i z H7 hz ⟨e7, hD⟩
      obtain ⟨x, hx, hv⟩ := lin_at hA hz
      obtain ⟨b', ws, rfl, hS, _⟩ := Dp.lin (Dp.same (e6.trans e7) hv)
      have il : i < ls.length := (List.getElem?_eq_some_iff.mp hx).1
      refine ⟨rfl, _, rfl, b', _, _, _, rfl, rfl, hS, at_0 _ _, rfl, _, hD, ?_, same_mut e7 hD0, ?_⟩
      · rw [List.length_map, List.length_map, List.length_take]
        omega
      · rw [upd_same, List.take_add_one, hx, List.map_append, List.map_append]
        have e2 : (!decide (V.str x.w = V.str "choose")) = !isCh x := by
          rw [show decide (V.str x.w = V.str "choose") = _ from Lin.w_is x 4]
          cases x <;> rfl
        rw [e2]
        rfl
    rintro H7 ⟨e7, hD⟩
    rw [hul, List.take_length] at hD
    refine ⟨D, _, rfl, SqL.of hD, _, rfl, l, _, rfl, .inl (SqL.of (e7 _ _ (e6 _ _ hL))), z5, fun du hdu => ?_⟩
    have e2 : (ls.map fun x => !isCh x).all id = !ls.any isCh := by
      generalize ls = ls
      induction ls with
      | nil => rfl
      | cons x ls ih =>
        rw [List.map_cons, List.all_cons, ih, List.any_cons]
        cases isCh x <;> rfl
    rw [e2]
    have ho : OutsOf ls zs := nms.outs perm so
    have lz := ho.len
    have e8 := (e6.trans e7).trans (same_new (o := .lst [V.ref l, .ref q, .int ((modL ls : Nat) : Int), .bl (!ls.any isCh), .int ((us.length : Nat) : Int)]) hdu)
    have hdu8 := upd_same (a := du) (o := HO.lst [V.ref l, .ref q, .int ((modL ls : Nat) : Int), .bl (!ls.any isCh), .int ((us.length : Nat) : Int)]) (H := H7)
    have hz8 : (upd H7 du (.lst [V.ref l, .ref q, .int ((modL ls : Nat) : Int), .bl (!ls.any isCh), .int ((us.length : Nat) : Int)])) q = some (.lst (zs.map V.str)) := (same_new hdu) _ _ (e7 _ _ hZ)
    generalize upd H7 du _ = H8 at *
    have P8 := P.same e8
    have B8 := B.keep e8
    have hL8 := e8 _ _ hL
    have hA8 := Dp.sameAll e8 hA
    clear e8 P B hL hA e7 e6 e5 hZ hN hnm hdu hq hD0 hD eq
    obtain ⟨dx, rp, hip, _, _⟩ := P8.ex
    -- not same
    refine ⟨_, rfl, p, dx, _, rfl, hip, rfl, p, us, ls, rfl, P8, fun q1 hq1 => ?_⟩
    have e9 := same_new (o := .lst us) hq1
    refine ⟨_, rfl, p, dx, _, rfl, e9 _ _ hip, rfl, p, us, ls, rfl, P8.same e9, fun ys2 q2 H10 ho2 e10 _ hq2 => ?_⟩
    have ea := e9.trans e10
    have hq1' := e10 _ _ (upd_same (a := q1) (o := HO.lst us) (H := H8))
    obtain rfl := ho2.uniq ho
    refine ⟨_, rfl, p, dx, _, rfl, ea _ _ hip, p, us, ls, rfl, P8.same ea, ⟨_, rfl, p, dx, _, rfl, ea _ _ hip, p, us, ls, rfl, P8.same ea, fun H11 e11 => ⟨_, rfl, p, rfl, ⟨dx, _, e11 _ _ (ea _ _ hip)⟩, p, us, ls, rfl, (P8.same ea).same e11, _, rfl, by omega, z5, fun q3 hq3 => ?_⟩⟩⟩
    have e12 := same_new (o := .lst [V.ref q1, .ref q2, .int ((modL ls : Nat) : Int), .bl (!ls.any isCh), .int ((ls.length : Nat) : Int)]) hq3
    have eb := ea.trans (e11.trans e12)
    have hL9 := eb _ _ hL8
    have hA9 := Dp.sameAll eb hA8
    refine ⟨_, rfl, .ref q3, .ref du, .list [.list (ls.map Lin.d), .list (ys2.map PyData.str), .int ((modL ls : Nat) : Int), .bool (!ls.any isCh), .int ((ls.length : Nat) : Int)], rfl,
      .lst (SqL.of upd_same) (.cons (.lst (SqL.of (e12 _ _ (e11 _ _ hq1'))) hA9) (.cons (.lst (SqL.of (e12 _ _ (e11 _ _ hq2))) (strs_dp _ _ _)) (.cons (.int _) (.cons (.bl _) (.cons (.int _) .nil))))),
      .lst (SqL.of (eb _ _ hdu8)) (.cons (.lst (SqL.of hL9) hA9) (.cons (.lst (SqL.of (eb _ _ hz8)) (strs_dp _ _ _)) (.cons (.int _) (.cons (.bl _) (.cons (by rw [hul]; exact .int _) .nil))))), ?_, ?_, fun H13 e13 => ⟨_, rfl, ite_f rfl ?_⟩⟩
    · have := lins_dep ls
      have := strs_dep ys2
      simp only [PyData.depth, PyData.depthAll]
      omega
    · have h1 := lins_smL ls (by omega)
      have h2 : smallD (.list (ys2.map PyData.str)) = true := by
        rw [smallD, strs_sm, List.length_map, decide_eq_true (by omega)]
        rfl
      show smallD (.list _) = true
      rw [smallD, smallDs, h1, smallDs, h2]
      rfl
    have ec := eb.trans e13
    have P := P8.same ec
    have B := B8.keep ec
    have hL := ec _ _ hL8
    have hA := Dp.sameAll ec hA8
    have hdu := ec _ _ hdu8
    have hz := ec _ _ hz8
    clear P8 B8 hL8 hA8 hdu8 hz8 ec e13 eb e12 hL9 hA9 e11 ea e10 hq1' hq2 e9 hq1 hip hq3
    -- the new lists
    obtain ⟨dx, rp, hip, hdx, hrp⟩ := P.ex
    refine ⟨_, rfl, p, dx, _, rfl, hip, rfl, p, us, ls, rfl, P, fun q4 hq4 => ⟨.inl ⟨rfl, _, SqL.of upd_same⟩, q4, _, rfl, rfl, upd_same, ?_⟩⟩
    have e1 := same_mut (o := .lst []) (same_new (o := .lst us) hq4) hq4
    have P1 := P.same e1
    have hip1 := e1 _ _ hip
    generalize upd (upd H13 q4 _) q4 _ = H14 at *
    refine ⟨_, rfl, p, dx, _, rfl, hip1, rfl, p, us, ls, rfl, P1, fun ys3 q5 H15 ho3 e15 n5 hq5 => ⟨.inl ⟨rfl, _, SqL.of hq5⟩, q5, _, _, rfl, rfl, hq5, by have := ho3.len; rw [List.length_map]; omega, ?_⟩⟩
    have e2 := e1.trans (same_mut (o := .lst (ys3.map V.str ++ [V.str "x"])) e15 n5)
    have P2 := P.same e2
    generalize upd H15 q5 _ = H16 at *
    clear P1 hip1 e1 e15 hq5 n5 hq4
    obtain ⟨dx, rp, hip, _, _⟩ := P2.ex
    refine ⟨_, rfl, p, dx, _, rfl, hip, rfl, p, us, ls, rfl, P2, fun q1 hq1 => ?_⟩
    have e9 := same_new (o := .lst us) hq1
    refine ⟨_, rfl, p, dx, _, rfl, e9 _ _ hip, rfl, p, us, ls, rfl, P2.same e9, fun ys4 q2 H17 ho4 e10 _ hq2 => ?_⟩
    obtain rfl := ho4.uniq ho
    have ea := e9.trans e10
    have hq1' := e10 _ _ (upd_same (a := q1) (o := HO.lst us) (H := H16))
    refine ⟨z2, fun q3 hq3 => ?_⟩
    have e12 := same_new (o := .lst [V.ref q1, .ref q2]) hq3
    have hq3' := upd_same (a := q3) (o := HO.lst [V.ref q1, .ref q2]) (H := H17)
    have hq1'' := e12 _ _ hq1'
    have hq2'' := e12 _ _ hq2
    have eb := e2.trans (ea.trans e12)
    generalize upd H17 q3 _ = H18 at *
    refine ⟨_, rfl, _, rfl, du, _, rfl, SqL.of (eb _ _ hdu), fun q6 hq6 => ?_⟩
    have e16 := same_new (o := .lst (cutV [V.ref l, .ref q, .int ((modL ls : Nat) : Int), .bl (!ls.any isCh), .int ((us.length : Nat) : Int)] none (some 2))) hq6
    have hq6' : (upd H18 q6 (.lst (cutV [V.ref l, .ref q, .int ((modL ls : Nat) : Int), .bl (!ls.any isCh), .int ((us.length : Nat) : Int)] none (some 2)))) q6 = some (.lst [V.ref l, .ref q]) := upd_same
    have ed := eb.trans e16
    have hL1 := ed _ _ hL
    have hA1 := Dp.sameAll ed hA
    refine ⟨.ref q3, .ref q6, .list [.list (ls.map Lin.d), .list (ys4.map PyData.str)], rfl,
      .lst (SqL.of (e16 _ _ hq3')) (.cons (.lst (SqL.of (e16 _ _ hq1'')) hA1) (.cons (.lst (SqL.of (e16 _ _ hq2'')) (strs_dp _ _ _)) .nil)),
      .lst (SqL.of hq6') (.cons (.lst (SqL.of hL1) hA1) (.cons (.lst (SqL.of (ed _ _ hz)) (strs_dp _ _ _)) .nil)), ?_, ?_, fun H19 e19 => ⟨_, rfl, ite_f rfl ?_⟩⟩
    · have := lins_dep ls
      have := strs_dep ys4
      simp only [PyData.depth, PyData.depthAll]
      omega
    · have h1 := lins_smL ls (by omega)
      have h2 : smallD (.list (ys4.map PyData.str)) = true := by
        rw [smallD, strs_sm, List.length_map, decide_eq_true (by omega)]
        rfl
      show smallD (.list _) = true
      rw [smallD, smallDs, h1, smallDs, h2]
      rfl
    have ef := ed.trans e19
    have P3 := P.same ef
    have B3 := B.keep ef
    have hL3 := ef _ _ hL
    have hA3 := Dp.sameAll ef hA
    clear P B hL hA hdu hz ef e19 hL1 hA1 hq6' e16 hq6 eb hq1'' hq2'' hq3' e12 hq3 hq1' ea e10 hq2 e9 hq1 hip P2 e2 ed
    obtain ⟨dx, rp, hip, _, _⟩ := P3.ex
    have b1 : (Str.ofString (toString ((ls.length : Nat) : Int))).length ≤ 100 := num_le (by omega)
    have c1 : (Str.ofString "Program(").length = 8 := by decide +kernel
    have c2 : (Str.ofString " lines)").length = 7 := by decide +kernel
    rw [← hul] at b1
    refine ⟨_, rfl, p, rfl, ⟨dx, _, hip⟩, p, us, ls, rfl, P3, _, rfl, _, rfl, l, _, rfl, .inl (SqL.of hL3), _, rfl, ?_, _, _, rfl, rfl, ?_, _, _, rfl, rfl, ?_, rfl, _, rfl, ite_f ?_ ?_⟩
    · rw [Int.natAbs_natCast]
      exact Nat.lt_of_le_of_lt (Nat.log2_le_self _) (by omega)
    · rw [c1]
      omega
    · rw [Str.length_append, c1, c2]
      omega
    · show (!decide (V.str _ = V.str _)) = false
      rw [hul]
      simp
    -- more
    refine ⟨_, rfl, b, 3, _, rfl, B3, by decide, by decide, fun l2 us2 ls2 H4 hl2H hL4 hA4 l20 l23 hok2 B4 k4 => ?_⟩
    have stk := B3.sameT k4
    have P5 := P3.sameT stk
    have hL5 := k4.kp _ _ nlb hL3
    have hA5 := Dp.sameTs stk (lin_nls ls) hA3
    obtain ⟨dx5, rp5, hip5, _, _⟩ := P5.ex
    refine ⟨_, rfl, _, rfl, l2, us2, ls2, rfl, hL4, hA4, hok2, l20, by omega, fun p2 H6 e6 P2 => ?_⟩
    have P6 := P5.same e6
    have hL6 := e6 _ _ hL5
    have hA6 := Dp.sameAll e6 hA5
    have B6 := B4.keep e6
    obtain ⟨dx2, rp2, hip2, _, _⟩ := P2.ex
    refine ⟨p, p2, rfl, rfl, ⟨dx5, _, e6 _ _ hip5⟩, ⟨dx2, _, hip2⟩, p, p2, us, us2, ls, ls2, rfl, P6, P2, _, rfl, _, rfl, _, rfl, .list (ls.map Lin.d), .list (ls2.map Lin.d), .lst (SqL.of hL6) hA6, .lst (SqL.of (e6 _ _ hL4)) (Dp.sameAll e6 hA4), lins_shpL ls hok, lins_shpL ls2 hok2, rfl, _, rfl, ite_f ?_ ?_⟩
    · show (!decide (V.bl _ = V.bl _)) = false
      simp
    refine ⟨_, rfl, _, rfl, l, us, ls, rfl, hL6, hA6, hok, l0, by omega, fun p3 H7 e7 P3' => ?_⟩
    have P7 := P6.same e7
    obtain ⟨dx7, rp7, hip7, _, _⟩ := P7.ex
    obtain ⟨dx3, rp3, hip3, _, _⟩ := P3'.ex
    refine ⟨p, p3, rfl, rfl, ⟨dx7, _, hip7⟩, ⟨dx3, _, hip3⟩, p, p3, us, us, ls, ls, rfl, P7, P3', _, rfl, _, rfl, ite_f (by rw [eqv_linsR ls hok]; rfl) ?_⟩
    refine ⟨_, rfl, _, rfl, z2, fun q hq => ?_⟩
    have e8 := same_new (o := .lst [V.non, .ref l]) hq
    refine ⟨p, q, _, rfl, rfl, ⟨dx7, _, e8 _ _ hip7⟩, upd_same, fun z hz => ?_, _, rfl, ite_f rfl ⟨_, _, _, _, _, _, _, _, rfl, (B6.keep e7).keep e8⟩⟩
    have hz : z = .non ∨ z = .ref l := by simpa using hz
    have oth : OthV K (upd H7 q (.lst [V.non, .ref l])) z := by
      rcases hz with rfl | rfl
      · exact .inl rfl
      · exact .inr (.inl ⟨l, _, rfl, e8 _ _ (e7 _ _ hL6)⟩)
    exact ⟨oth, p, z, rfl, oth, rfl, rfl⟩

end
theorem all (P : Program) (w : World) (base : Heap) {K : PySem.W.Frag} {mg : Str → Option Value} {fd : FuncData} (E : En K mg) (F : FunD K "law" "law" (defArgs s_law) (defBody s_law) (defScope s_law) [] [] (He.ga K "law") fd) :
    FnOk P w K mg base CX0 13 (He.ga K "law") fd ["script"] (sp_law K) := by
  have G_Program___len__ := ok_Program___len__ (P := P) (w := w) (base := base) E
  have G_Program___repr__ := ok_Program___repr__ (P := P) (w := w) (base := base) E
  have G_Program_outcomes := ok_Program_outcomes (P := P) (w := w) (base := base) E
  have G_is_name := ok_is_name (P := P) (w := w) (base := base) E
  have G_is_number := ok_is_number (P := P) (w := w) (base := base) E
  have G_is_within := ok_is_within (P := P) (w := w) (base := base) E G_is_number
  have G_is_one_of := ok_is_one_of (P := P) (w := w) (base := base) E
  have G_is_test := ok_is_test (P := P) (w := w) (base := base) E G_is_within G_is_one_of G_is_number
  have G_is_line := ok_is_line (P := P) (w := w) (base := base) E G_is_name G_is_within G_is_test G_is_one_of
  have G_Program___init__ := ok_Program___init__ (P := P) (w := w) (base := base) E G_is_line
  have G_Program___eq__n := ok_Program___eq__n (P := P) (w := w) (base := base) E
  have G_Program___eq__ := ok_Program___eq__ (P := P) (w := w) (base := base) E
  have G__law_program := ok__law_program (P := P) (w := w) (base := base) E G_Program___init__
  have G__law_true := ok__law_true (P := P) (w := w) (base := base) E
  have G__law_rests := ok__law_rests (P := P) (w := w) (base := base) E
  have G__law_followers := ok__law_followers (P := P) (w := w) (base := base) E G__law_true G__law_rests
  have G__law_modulus := ok__law_modulus (P := P) (w := w) (base := base) E
  have G__law_states := ok__law_states (P := P) (w := w) (base := base) E G__law_followers G__law_modulus
  have G__law_pull := ok__law_pull (P := P) (w := w) (base := base) E
  have G__law_test := ok__law_test (P := P) (w := w) (base := base) E G__law_pull
  have G__law_line := ok__law_line (P := P) (w := w) (base := base) E G__law_pull G__law_test
  have G__law_drawn := ok__law_drawn (P := P) (w := w) (base := base) E G__law_line G__law_pull
  have G__law_lines := ok__law_lines (P := P) (w := w) (base := base) E G__law_states G__law_drawn
  have G__law_same := ok__law_same (P := P) (w := w) (base := base) E
  have G_Program_lines := ok_Program_lines (P := P) (w := w) (base := base) E
  have G_Program_single := ok_Program_single (P := P) (w := w) (base := base) E
  have G_common_divisor := ok_common_divisor (P := P) (w := w) (base := base) E
  have G_common_multiple := ok_common_multiple (P := P) (w := w) (base := base) E G_common_divisor
  have G_Program_modulus := ok_Program_modulus (P := P) (w := w) (base := base) E G_common_multiple
  have G__law_bag := ok__law_bag (P := P) (w := w) (base := base) E
  exact ok_law F E G_Program___len__ G_Program___repr__ G_Program_outcomes G_Program___init__ G_Program___eq__n G_Program___eq__ G__law_program G__law_lines G__law_same G_Program_lines G_Program_single G_Program_modulus G__law_bag
end Lw
open PySem PySem.W PySem.Calls PyProof.Rows
set_option maxRecDepth 100000 in
set_option maxHeartbeats 0 in
theorem PySem.Challenge.cw_addpath_k09_programs_and_their_parts_holds : PySem.Challenge.rw_addpath_k09_programs_and_their_parts.Holds := by
  w_on; o_law
  refine HandSHeadRun.head_any (r := OpenLaw.row PySem.Challenge.rw_addpath_k09_programs_and_their_parts) (q := view (OpenLaw.row PySem.Challenge.rw_addpath_k09_programs_and_their_parts).prog [36]) (H := Lw.hk) (ob := Lw.ob) (M := 20000) (loose := Lw.loose) (d := HandSHeadRun.topDef (OpenLaw.row PySem.Challenge.rw_addpath_k09_programs_and_their_parts).prog 36) (kwd := []) Lw.ob_eq
    (by kernel_rfl) (fun s => by kernel_rfl) Lw.run (by kernel_rfl) (by kernel_rfl) (by kernel_rfl) (by rfl) (by first | assumption | decide +kernel) (by decide +kernel) ⟨rfl, rfl, rfl, rfl, rfl, by decide +kernel⟩ ?hw ?hc
  case hw => w_witness2
  case hc =>
    refine L2.walk_ofE (l := PySem.Challenge.rw_addpath_k09_programs_and_their_parts) (n := 63) (k := 13) (x := "script") (CX := L2.CX0) rfl (by decide) (by kernel_rfl) ⟨rfl, by decide, by decide⟩ ?F (fun _ _ _ _ z => z)
    intro w mg fa h Y G hmg0
    obtain ⟨K, KX, c⟩ := Y
    have hmg : mg ("law" : PySem.Str) = some (.ref fa) := by
      have e : (HandSHeadRun.topDef (OpenLaw.row PySem.Challenge.rw_addpath_k09_programs_and_their_parts).prog 36).name = ("law" : PySem.Str) := by kernel_rfl
      rw [← e]
      exact hmg0
    exact Bx.closing (sp := Lw.sp_law) KX G hmg c.d c.a c.more (fun E => Lw.En.gl E "law") (c.d.def_ 28 (d := Lw.d_law) rfl) (fun base fd E F => Lw.all _ w base E F) (fun F s v => L2.FunD.bindsA (ps := ["script"]) F (fun _ _ _ _ _ _ us hl => match us, hl with | [_], _ => rfl) s [v] rfl)
      (fun H a ns hl hS => Lw.sp_law_holds H a ns hl hS)
#print axioms PySem.Challenge.cw_addpath_k09_programs_and_their_parts_holds
