import PyProof.Rows.All
import Wide.All
import OpenK.AllK
import Wide.FinOn
import PyProof.EqAt
import PyProof.EqKinds
import PyProof.TupleCall
import KE.KStateDown
import HandS.ForMost
import HandS.More
import HandS.Wide
import HandS.IsInst
import HandS.Zip
import HandS.TupAny
import HandS.Steps
import HandS.Exc
import HandS.Defaults
import HandS.Style
import HandS.Head0
import HandS.Head1
import HandS.Head2
import HandS.HeadEnd
import HandS.HeadHook1
import HandS.HeadHook2
import HandS.HeadHook3
import HandS.HeadHook4
import HandS.HeadNt
import HandS.ClsMeth
import HandS.Star
import HandS.Codes
import HandS.Property
import KE.KOpsOwn
import HandS.ExcInit
import KE.KExcSuper
import KE.KSuper
import HandS.ExcField
import HandS.FStr
import HandS.TryMany
import HandS.ExcOwn
import HandS.HeadWalk
import HandS.HotCalls
import HandS.Lambda
import HandS.TupMul
import HandS.SetBool
import HandS.TupLen
import KE.GoesZip
import KE.GoesMore
import HandS.Walk
import HandS.DictComp
import HandS.Conv
import OpenK.KOps
import PySem.Challenge.RW_addpath_k28_tables_are_checked
set_option Elab.async false
set_option linter.all false
set_option maxRecDepth 100000
set_option maxHeartbeats 4000000
/-! small things that all defs lean on -/
namespace Bx
open PySem PySem.Spec PyProof.Rows L2
/-- what the head has told: the facts of names, the defs -/
structure Env (fal : List He.Fa) (fnl : List He.DefD) (fna : List He5.DefA) (xf : PySem.W.Frag → Bool) (K : PySem.W.Frag) (mg : Str → Option Value) : Prop where
  ex : ∃ h : Heap, K.In h ∧ h.Ns mainGlobals mg
  says : He.SaysD fal fnl K
  saysA : He5.SaysA [] fna K
  more : xf K = true
theorem Env.ok {fal : List He.Fa} {fnl : List He.DefD} {fna : List He5.DefA} {xf : PySem.W.Frag → Bool} {K : PySem.W.Frag} {mg : Str → Option Value} (E : Env fal fnl fna xf K mg) {f : He.Fa} (h : f ∈ fal) : f.ok K = true := by
  obtain ⟨i, hi⟩ := List.getElem?_of_mem h
  exact E.says.fact i hi
theorem Env.glo {fal : List He.Fa} {fnl : List He.DefD} {fna : List He5.DefA} {xf : PySem.W.Frag → Bool} {K : PySem.W.Frag} {mg : Str → Option Value} (E : Env fal fnl fna xf K mg) (x : Str) (h : He.Fa.glo x ∈ fal) : mg x = some (.ref (He.ga K x)) := by
  obtain ⟨hp, X, G⟩ := E.ex
  exact He.glo_ok X G (E.ok h)
theorem Env.free {fal : List He.Fa} {fnl : List He.DefD} {fna : List He5.DefA} {xf : PySem.W.Frag → Bool} {K : PySem.W.Frag} {mg : Str → Option Value} (E : Env fal fnl fna xf K mg) (x : Str) (h : He.Fa.free x ∈ fal) : mg x = none := by
  obtain ⟨hp, X, G⟩ := E.ex
  exact He.free_ok X G (E.ok h)
/-- a def that stands under the module's name x and keeps its promise -/
def Good (P : Program) (w : World) (K : PySem.W.Frag) (mg : Str → Option Value) (base : Heap) (CX : CXT) (k : Nat) (x : Str) (ps : List Str) (sp : Sp) : Prop :=
  ∃ fd, FnOk P w K mg base CX k (He.ga K x) fd ps sp ∧ Binds K fd ps [] ∧ PySem.W.keepIn K (.ref (He.ga K x)) = true ∧ mg x = some (.ref (He.ga K x))
section
variable {X : Cx} {CX : CXT} {k : Nat} {ps : List Str} {sp : Sp} {E : XK} {x : Str} {p pos : Pos} {e : Expr} {es : List Expr} {t : TA}
theorem pe_G (F : Good X.prog X.w X.K X.mg X.base CX k x ps sp) (hr : Room k X.A) (hg : Gl X x) (hx : Passes CX X E) (ha : PA X (e :: es) t)
    (hdb : (x == ("__debug__" : Str)) = false := by decide) (he : starEach (e :: es) X.env = (false, eval e X.env) :: starEach es X.env := by rfl) (hpl : (backTo pos (starEach es X.env)).any (·.1) = false := by rfl) :
    PE X (.Call (.Name x p) (e :: es) [] pos) (tCall sp [] E t) := by
  obtain ⟨fd, F, b, kp, m⟩ := F
  exact pe_call F hr hg m kp b .nil hx ha hdb he hpl
end
/-- a def called by n positional values and keywords ks; gV: its values in the parameters' order -/
def GoodN (P : Program) (w : World) (K : PySem.W.Frag) (mg : Str → Option Value) (base : Heap) (CX : CXT) (k : Nat) (x : Str) (n : Nat) (ks ps : List Str) (gV : List V → List V → List V) (sp : Sp) : Prop :=
  ∃ fd, FnOk P w K mg base CX k (He.ga K x) fd ps sp ∧ (∃ g, KBn K fd ps n ks g gV) ∧ PySem.W.keepIn K (.ref (He.ga K x)) = true ∧ mg x = some (.ref (He.ga K x))
section
variable {X : Cx} {CX : CXT} {k n : Nat} {ps ks : List Str} {sp : Sp} {E : XK} {x : Str} {p pos : Pos} {e : Expr} {es : List Expr} {kws : List Keyword} {t tk : TA} {gV : List V → List V → List V}
theorem pe_GN (F : GoodN X.prog X.w X.K X.mg X.base CX k x n ks ps gV sp) (hr : Room k X.A) (hg : Gl X x) (hx : Passes CX X E)
    (ha : PA X (e :: es) t) (hkw : PK X kws tk) (hall : (backToKw pos (keywordEach kws X.env)).all (·.1.isSome) = true := by rfl) (hks : (backToKw pos (keywordEach kws X.env)).filterMap (·.1) = ks := by rfl)
    (hdb : (x == ("__debug__" : Str)) = false := by decide) (he : starEach (e :: es) X.env = (false, eval e X.env) :: starEach es X.env := by rfl)
    (hpl : ((backTo pos (starEach (e :: es) X.env)).any (·.1) || (backToKw pos (keywordEach kws X.env)).any (·.1.isNone)) = false := by rfl) :
    PE X (.Call (.Name x p) (e :: es) kws pos) (tCallN n ks.length sp gV E t tk) := by
  obtain ⟨fd, F, ⟨g, hb⟩, kp, m⟩ := F
  exact pe_callN F hr hg m kp hb hx ha hkw hall hks hdb he hpl
end
/-- a def that stands at f (a method) -/
def GoodM (P : Program) (w : World) (K : PySem.W.Frag) (mg : Str → Option Value) (base : Heap) (CX : CXT) (k : Nat) (f : Addr) (ps : List Str) (sp : Sp) : Prop :=
  ∃ fd, FnOk P w K mg base CX k f fd ps sp ∧ Binds K fd ps []
theorem GoodM.raw {P : Program} {w : World} {K : PySem.W.Frag} {mg : Str → Option Value} {base : Heap} {CX : CXT} {k : Nat} {f : Addr} {ps : List Str} {sp : Sp} (G : GoodM P w K mg base CX k f ps sp) : FnR P w K mg base CX k f sp := by
  obtain ⟨fd, F, b⟩ := G
  exact (F.raw b .nil).imp fun vs H Q E h => by rw [List.append_nil]; exact h
/-- the same, with the def itself: for calls with keywords -/
def GoodD (P : Program) (w : World) (K : PySem.W.Frag) (mg : Str → Option Value) (base : Heap) (CX : CXT) (k : Nat) (d : He.DefD) (x : Str) (ps : List Str) (sp : Sp) : Prop :=
  ∃ fd, FnOk P w K mg base CX k (He.ga K x) fd ps sp ∧ Binds K fd ps [] ∧ PySem.W.keepIn K (.ref (He.ga K x)) = true ∧ mg x = some (.ref (He.ga K x)) ∧ FunD K d.name d.qual d.params d.body d.scope (d.dvs K) (d.kws K) (He.ga K x) fd
theorem GoodD.good {P : Program} {w : World} {K : PySem.W.Frag} {mg : Str → Option Value} {base : Heap} {CX : CXT} {k : Nat} {d : He.DefD} {x : Str} {ps : List Str} {sp : Sp} (h : GoodD P w K mg base CX k d x ps sp) : Good P w K mg base CX k x ps sp := by
  obtain ⟨fd, F, b, kp, m, _⟩ := h
  exact ⟨fd, F, b, kp, m⟩
theorem _root_.L2.FunD.bindsW {K : PySem.W.Frag} {x qual : Str} {params : Arguments} {body : List Stmt} {scope : Scope} {kws : List (Str × V)} {f : Addr} {fd : FuncData} {args : Args} {binds : List (Str × Value)} (F : FunD K x qual params body scope [] kws f fd)
    (h : ∀ (kV doc pm : Value) (an : Option Addr) (cdv ct : Value), bindArgs (PySem.W.fnOf x qual params body scope .none kV doc pm an cdv ct) args = pure binds) (s : Shared) : BindsTo s fd args binds := by
  obtain ⟨oc, od, dV, kV, doc, pm, an, cdv, ct, osl, rfl, lk, hcd, hD, hK⟩ := F.ex
  rcases hD with ⟨_, rfl⟩ | ⟨e, _⟩
  · exact .of_eq (h kV doc pm an cdv ct)
  · exact absurd rfl e
section
variable {X : Cx} {CX : CXT} {k : Nat} {ps ks : List Str} {sp : Sp} {E : XK} {x : Str} {p pos : Pos} {kws : List Keyword} {tk : TA} {d : He.DefD}
/-- f(k = v, ..), all parameters by keywords in their order -/
theorem pe_GK0 (F : GoodD X.prog X.w X.K X.mg X.base CX k d x ps sp) (hr : Room k X.A) (hg : Gl X x) (hx : Passes CX X E)
    (hb : ∀ {fd}, FunD X.K d.name d.qual d.params d.body d.scope (d.dvs X.K) (d.kws X.K) (He.ga X.K x) fd → ∀ (s : Shared) (us : List Value), us.length = ps.length → BindsTo s fd ⟨[], ps.zip us⟩ (ps.zip us))
    (hkw : PK X kws tk) (hall : (backToKw pos (keywordEach kws X.env)).all (·.1.isSome) = true := by rfl) (hks : (backToKw pos (keywordEach kws X.env)).filterMap (·.1) = ps := by rfl)
    (hdb : (x == ("__debug__" : Str)) = false := by decide) (hpl : ((backTo pos (starEach [] X.env)).any (·.1) || (backToKw pos (keywordEach kws X.env)).any (·.1.isNone)) = false := by rfl) :
    PE X (.Call (.Name x p) [] kws pos) (fun σ H Q => tk σ H fun zs H1 => sp zs H1 Q E) := by
  obtain ⟨fd, F, _, kp, m, D⟩ := F
  refine ⟨fun pins s σ H Q I h => ?_⟩
  refine wpAny_Call_Name_kw (ld_glob I hg m ?_ hdb)
  refine PySem.W.callWith_KW0 (h₀ := X.base) I.ok.mod.kin kp hall (thn (hkw.run pos pins s σ H _ I h) fun ws s2 ⟨zs, H2, I2, rz, q2⟩ => ⟨I2.kIn, ?_⟩) hpl
  rw [hks, List.append_nil]
  have l2 : ws.length = ps.length := by rw [← rz.length]; exact F.len _ _ _ _ q2
  refine wpAny_call (codeAny_mono (F.run X.A X.stack s2 H2 ⟨[], ps.zip ws⟩ ws zs Q E hr I2.env0 (hb D s2 ws l2) rz q2) fun r s' hq => ?_)
  cases r with
  | error e => exact hx pins σ H2 s2 e s' I2 hq
  | ok fl =>
    cases fl with
    | ret u => exact I2.after hq
    | next => exact False.elim hq
    | brk => exact False.elim hq
    | cont => exact False.elim hq
end
section
variable {X : Cx} {CX : CXT} {k : Nat} {ps ks : List Str} {sp : Sp} {E : XK} {x : Str} {p pos : Pos} {kws : List Keyword} {tk : TA} {d : He.DefD}
/-- f(k = v, ..), all parameters by keywords, from the last to the first -/
theorem pe_GKr (F : GoodD X.prog X.w X.K X.mg X.base CX k d x ps sp) (hr : Room k X.A) (hg : Gl X x) (hx : Passes CX X E)
    (hb : ∀ {fd}, FunD X.K d.name d.qual d.params d.body d.scope (d.dvs X.K) (d.kws X.K) (He.ga X.K x) fd → ∀ (s : Shared) (us : List Value), us.length = ps.length → BindsTo s fd ⟨[], ps.reverse.zip us⟩ (ps.zip us.reverse))
    (hkw : PK X kws tk) (hall : (backToKw pos (keywordEach kws X.env)).all (·.1.isSome) = true := by rfl) (hks : (backToKw pos (keywordEach kws X.env)).filterMap (·.1) = ps.reverse := by rfl)
    (hdb : (x == ("__debug__" : Str)) = false := by decide) (hpl : ((backTo pos (starEach [] X.env)).any (·.1) || (backToKw pos (keywordEach kws X.env)).any (·.1.isNone)) = false := by rfl) :
    PE X (.Call (.Name x p) [] kws pos) (fun σ H Q => tk σ H fun zs H1 => sp zs.reverse H1 Q E) := by
  obtain ⟨fd, F, _, kp, m, D⟩ := F
  refine ⟨fun pins s σ H Q I h => ?_⟩
  refine wpAny_Call_Name_kw (ld_glob I hg m ?_ hdb)
  refine PySem.W.callWith_KW0 (h₀ := X.base) I.ok.mod.kin kp hall (thn (hkw.run pos pins s σ H _ I h) fun ws s2 ⟨zs, H2, I2, rz, q2⟩ => ⟨I2.kIn, ?_⟩) hpl
  rw [hks, List.append_nil]
  have l2 : ws.length = ps.length := by
    have := F.len _ _ _ _ q2
    rw [List.length_reverse, rz.length] at this
    exact this
  refine wpAny_call (codeAny_mono (F.run X.A X.stack s2 H2 ⟨[], ps.reverse.zip ws⟩ ws.reverse zs.reverse Q E hr I2.env0 (hb D s2 ws l2) rz.reverse q2) fun r s' hq => ?_)
  cases r with
  | error e => exact hx pins σ H2 s2 e s' I2 hq
  | ok fl =>
    cases fl with
    | ret u => exact I2.after hq
    | next => exact False.elim hq
    | brk => exact False.elim hq
    | cont => exact False.elim hq
end
/-- len(t), said with K -/
def rLenC (K : PySem.W.Frag) : List V → Hp → VK → Prop := fun xs H Q => ∃ p ys, xs = [.ref p] ∧ (SqL K H p ys ∨ SqT K H p ys) ∧ Q (.int ((ys.length : Nat) : Int)) H
/-- tuple(t), said with K -/
def rTof (K : PySem.W.Frag) : List V → Hp → VK → Prop := fun xs H Q => ∃ p ys, xs = [.ref p] ∧ ((SqL K H p ys ∧ ∀ l, H l = none → Q (.ref l) (L2.upd H l (.tup ys))) ∨ (SqT K H p ys ∧ Q (.ref p) H))
/-- the scope of a written comprehension; the value of an assignment -/
def compSc : Expr → Scope
  | .ListComp _ _ sc _ => sc
  | _ => default
def assignVal : Stmt → Expr
  | .Assign _ v _ => v
  | _ => default
/-- list(t), said with K -/
def rLof (K : PySem.W.Frag) : List V → Hp → VK → Prop := fun xs H Q => ∃ p ys, xs = [.ref p] ∧ (SqL K H p ys ∨ SqT K H p ys) ∧ ∀ l, H l = none → Q (.ref l) (L2.upd H l (.lst ys))
/-- the module's name x is a tuple, plain -/
def tupN (K : PySem.W.Frag) (x : Str) : Bool := match K.lookup (He.ga K x) with
  | some ⟨.type c, none, .seq _ _, _⟩ => decide (c = "tuple")
  | _ => false
theorem tupN_ok {K : PySem.W.Frag} {x : Str} (h : tupN K x = true) (H : Hp) : tyV K "tuple" (.ref (He.ga K x)) H := by
  unfold tupN at h
  cases q : K.lookup (He.ga K x) with
  | none =>
    rw [q] at h
    cases h
  | some o =>
    obtain ⟨oc, od, dt, osl⟩ := o
    rw [q] at h
    cases oc with
    | type c =>
      cases od with
      | none =>
        cases dt with
        | seq its n => exact .inr (.inl ⟨rfl, _, q, congrArg Value.type (of_decide_eq_true h), rfl⟩)
        | _ => cases h
      | some a => cases dt <;> cases h
    | _ => cases od <;> cases dt <;> cases h
theorem ite_f {c : Bool} {A B : Prop} (hc : c = false) (h : B) : if c = true then A else B := by
  rw [hc]
  exact iteF h
theorem ite_t {c : Bool} {A B : Prop} (hc : c = true) (h : A) : if c = true then A else B := by
  rw [hc]
  exact iteT h
theorem dne {i j : Int} (h : i ≠ j) : decide (V.int i = V.int j) = false := decide_eq_false fun z => h (V.int.inj z)
theorem deq {i j : Int} (h : i = j) : decide (V.int i = V.int j) = true := decide_eq_true (congrArg V.int h)
theorem hu64_of {A : Around} {k : Nat} (hr : Room k A) : A.units + 64 < cLine := Nat.lt_of_le_of_lt (Nat.le_refl _) hr.units
theorem closing {fal : List He.Fa} {fnl : List He.DefD} {fna : List He5.DefA} {xf : PySem.W.Frag → Bool} {P : Program} {w : World} {K : PySem.W.Frag} {h : Heap} {mg : Str → Option Value} {fa : Addr} {k : Nat} {sp : PySem.W.Frag → Sp} {pa : Arguments} {bd : List Stmt} {sc : Scope}
    (KX : K.In h) (G : h.Ns mainGlobals mg) (hmg : mg ("law" : Str) = some (.ref fa)) (c : He.SaysD fal fnl K) (ca : He5.SaysA [] fna K) (cx : xf K = true) (gl : Env fal fnl fna xf K mg → mg ("law" : Str) = some (.ref (He.ga K "law")))
    (D : ∃ fd, FunD K "law" "law" pa bd sc [] [] (He.ga K "law") fd)
    (F : ∀ (base : Heap) (fd : FuncData), Env fal fnl fna xf K mg → FunD K "law" "law" pa bd sc [] [] (He.ga K "law") fd → FnOk P w K mg base CX0 k (He.ga K "law") fd ["script"] (sp K))
    (b : ∀ {fd : FuncData}, FunD K "law" "law" pa bd sc [] [] (He.ga K "law") fd → ∀ (s : Shared) (v : Value), BindsTo s fd ⟨[v], []⟩ [("script", v)])
    (hsp : ∀ (H : Hp) (a : Addr) (ns : List Int), ns.length ≤ 63 → SqL K H a (ns.map V.int) → sp K [.ref a] H (fun v _ => v = .bl true) fun _ _ _ => False) :
    ∃ (K : PySem.W.Frag) (fd : FuncData) (sp : Sp), K.In h ∧ (∀ (s : Shared) (u : Value), BindsTo s fd ⟨[u], []⟩ [("script", u)]) ∧
        (∀ (H : Hp) (a : Addr) (ns : List Int), ns.length ≤ 63 → Only H → SqL K H a (ns.map V.int) → sp [.ref a] H (fun v _ => v = .bl true) fun _ _ _ => False) ∧
        ∀ base : Heap, K.In base → base.Ns mainGlobals mg → FnOk P w K mg base CX0 k fa fd ["script"] sp := by
  have E : Env fal fnl fna xf K mg := ⟨⟨h, KX, G⟩, c, ca, cx⟩
  obtain ⟨fd, hD⟩ := D
  have e := (gl E).symm.trans hmg
  cases e
  exact ⟨K, fd, sp K, KX, b hD, fun H a ns hl _ hS => hsp H a ns hl hS, fun base _ _ => F base fd E hD⟩
end Bx

/-! slices, kinds, places -/
namespace Bx
open PySem PySem.Spec PyProof.Rows L2
theorem cut_to {xs : List V} {n : Nat} (h : xs.length ≤ n) : cutV xs none (some (n : Int)) = xs := by
  unfold cutV
  rw [HT.sIx_none, HT.sIx_nat, Nat.min_eq_right h, List.drop_zero, Nat.sub_zero, List.take_length]
theorem cut63 {xs : List V} (h : xs.length ≤ 63) : cutV xs none (some 63) = xs := cut_to (n := 63) h
theorem cut_from1 (xs : List V) : cutV xs (some 1) none = xs.drop 1 := by
  unfold cutV
  rw [HT.sIx_none, show (1 : Int) = ((1 : Nat) : Int) from rfl, HT.sIx_nat]
  cases xs with
  | nil => rfl
  | cons x r => simp
theorem tyL {K : PySem.W.Frag} {H : Hp} {a : Addr} {xs : List V} (h : SqL K H a xs) : TyX K H (.ref a) (.type "list") := by
  rcases h with (h | ⟨o, h⟩) | ⟨o, its, n, h, c, _⟩
  · exact .base (.lst h)
  · exact .base (.frz h)
  · exact .kList h c
theorem tyT {K : PySem.W.Frag} {H : Hp} {a : Addr} {xs : List V} (h : SqT K H a xs) : TyX K H (.ref a) (.type "tuple") := by
  rcases h with (h | ⟨o, h⟩) | ⟨o, its, n, h, c, _⟩
  · exact .base (.tup h)
  · exact .fTuple h
  · exact .kTuple h c
/-- isinstance(x, T), both built-in -/
theorem isi {K : PySem.W.Frag} {H : Hp} {x : V} {a b : String} {r : Bool} {Q : VK} (t : TyX K H x (.type a)) (e : kitB a b = some r) (q : Q (.bl r) H) : rIsi K [x, .ty b] H Q :=
  ⟨x, .ty b, _, _, r, rfl, .ty b, t, kit_ty e, q⟩
theorem seqT {K : PySem.W.Frag} {H H' : Hp} {a : Addr} {xs : List V} (e : Same H H') (h : SqT K H a xs) : SqT K H' a xs := by
  rcases h with (h | ⟨o, h⟩) | h
  · exact .inl (.inl (e _ _ h))
  · exact .inl (.inr ⟨o, e _ _ h⟩)
  · exact .inr h
theorem same_new {H : Hp} {p : Addr} {o : HO} (h : H p = none) : Same H (upd H p o) := fun b u q => by rw [upd_ne (ne_of_none q h)]; exact q
/-- an object that H does not know may change -/
theorem same_mut {H H' : Hp} {p : Addr} {o : HO} (e : Same H H') (h : H p = none) : Same H (upd H' p o) := fun b u q => by rw [upd_ne (ne_of_none q h)]; exact e b u q
theorem sz {n : Nat} (h : n ≤ 100000) : n ≤ sizeLine := Nat.le_trans h (by decide)
theorem szl {n : Nat} (h : n < 100000) : n < sizeLine := Nat.lt_of_lt_of_le h (by decide)
/-- all but the object at b is as it was -/
structure Kp (b : Addr) (H H' : Hp) : Prop where
  kp : ∀ a o, a ≠ b → H a = some o → H' a = some o
  inn : ∀ c r, H b = some (.lst (.ref c :: r)) → ∃ r', H' b = some (.lst (.ref c :: r'))
instance {b : Addr} {H H' : Hp} : CoeFun (Kp b H H') (fun _ => ∀ a o, a ≠ b → H a = some o → H' a = some o) := ⟨Kp.kp⟩
theorem Kp.refl (b : Addr) (H : Hp) : Kp b H H := ⟨fun _ _ _ h => h, fun _ r h => ⟨r, h⟩⟩
theorem Kp.trans {b : Addr} {H H1 H2 : Hp} (x : Kp b H H1) (y : Kp b H1 H2) : Kp b H H2 := ⟨fun a o n h => y.kp a o n (x.kp a o n h), fun c r h => by
  obtain ⟨r1, h1⟩ := x.inn c r h
  exact y.inn c r1 h1⟩
theorem Kp.of {b : Addr} {H H' : Hp} (x : Same H H') : Kp b H H' := ⟨fun a o _ h => x a o h, fun c r h => ⟨r, x _ _ h⟩⟩
theorem Kp.put {b c : Addr} {H : Hp} {r r' : List V} (h : H b = some (.lst (.ref c :: r))) : Kp b H (L2.upd H b (.lst (.ref c :: r'))) := ⟨fun a u n h => by rw [upd_ne n]; exact h, fun c' q h2 => by
  rw [h] at h2
  cases h2
  exact ⟨_, upd_same⟩⟩
theorem Kp.new {b p : Addr} {H H' : Hp} {o : HO} (e : Kp b H H') (h : H' p = none) : Kp b H (L2.upd H' p o) := e.trans (Kp.of (same_new h))
end Bx
namespace Bx
open PySem PySem.Spec PyProof.Rows L2
theorem Kp.seq {K : PySem.W.Frag} {b a : Addr} {H H' : Hp} {xs : List V} (e : Kp b H H') (n : a ≠ b) (h : SqL K H a xs) : SqL K H' a xs := by
  rcases h with (h | ⟨o, h⟩) | h
  · exact .inl (.inl (e _ _ n h))
  · exact .inl (.inr ⟨o, e _ _ n h⟩)
  · exact .inr h
end Bx
namespace Bx
open PySem PySem.Spec PyProof.Rows L2
theorem cut_from (xs : List V) (n : Nat) : cutV xs (some (n : Int)) none = xs.drop n := by
  unfold cutV
  rw [HT.sIx_none, HT.sIx_nat]
  by_cases h : n ≤ xs.length
  · rw [Nat.min_eq_left h]
    exact List.take_of_length_le (by rw [List.length_drop]; exact Nat.le_refl _)
  · rw [Nat.min_eq_right (by omega), Nat.sub_self, List.take_zero, List.drop_eq_nil_of_le (by omega)]
theorem atI_nat' {α : Type} {xs : List α} {j : Nat} (h : j < xs.length) : atI xs (j : Int) = some xs[j] := atI_nat (List.getElem?_eq_getElem h)
end Bx

-- needs lists
/-! data of any depth in a heap that grows -/
namespace Bx
open PySem PySem.Spec PyProof.Rows L2
mutual
theorem Dp.same {K : PySem.W.Frag} {H H' : Hp} (e : Same H H') : ∀ {d : PyData} {v : V}, Dp K H v d → Dp K H' v d
  | .none, _, h => by cases h; exact .non
  | .bool _, _, h => by cases h; exact .bl _
  | .int _, _, h => by cases h; exact .int _
  | .str _, _, h => by cases h; exact .str _
  | .list _, _, h => by
    cases h with
    | lst hs ha => exact .lst (e.seq hs) (Dp.sameAll e ha)
  | .tuple _, _, h => by
    cases h with
    | tup hs ha => exact .tup (seqT e hs) (Dp.sameAll e ha)
  | .dict _, _, h => by cases h
theorem Dp.sameAll {K : PySem.W.Frag} {H H' : Hp} (e : Same H H') : ∀ {ds : List PyData} {vs : List V}, DpAll K H vs ds → DpAll K H' vs ds
  | [], _, h => by cases h; exact .nil
  | _ :: _, _, h => by
    cases h with
    | cons h1 h2 => exact .cons (Dp.same e h1) (Dp.sameAll e h2)
end
theorem DpAll.length {K : PySem.W.Frag} {H : Hp} : ∀ {ds : List PyData} {vs : List V}, DpAll K H vs ds → vs.length = ds.length
  | [], _, h => by cases h; rfl
  | _ :: _, _, h => by
    cases h with
    | cons h1 h2 => exact congrArg Nat.succ (DpAll.length h2)
theorem DpAll.get {K : PySem.W.Frag} {H : Hp} : ∀ {ds : List PyData} {vs : List V} {i : Nat} {v : V}, DpAll K H vs ds → vs[i]? = some v → ∃ d, ds[i]? = some d ∧ Dp K H v d
  | [], _, _, _, h, e => by cases h; cases e
  | _ :: _, _, 0, _, h, e => by
    cases h with
    | cons h1 h2 =>
      cases e
      exact ⟨_, rfl, h1⟩
  | _ :: _, _, i + 1, _, h, e => by
    cases h with
    | cons h1 h2 =>
      obtain ⟨d, q1, q2⟩ := DpAll.get (i := i) h2 (by simpa using e)
      exact ⟨d, by simpa using q1, q2⟩
theorem DpAll.append {K : PySem.W.Frag} {H : Hp} : ∀ {ds es : List PyData} {vs us : List V}, DpAll K H vs ds → DpAll K H us es → DpAll K H (vs ++ us) (ds ++ es)
  | [], _, _, _, h, g => by cases h; exact g
  | _ :: _, _, _, _, h, g => by
    cases h with
    | cons h1 h2 => exact .cons h1 (DpAll.append h2 g)
theorem DpAll.one {K : PySem.W.Frag} {H : Hp} {d : PyData} {v : V} (h : Dp K H v d) : DpAll K H [v] [d] := .cons h .nil
/-- two things of one tuple -/
theorem Dp.pair {K : PySem.W.Frag} {H : Hp} {v : V} {d e : PyData} (h : Dp K H v (.tuple [d, e])) : ∃ a x y, v = .ref a ∧ SqT K H a [x, y] ∧ Dp K H x d ∧ Dp K H y e := by
  cases h with
  | @tup a xs _ hs ha =>
    cases ha with
    | cons h1 h2 =>
      cases h2 with
      | cons h3 h4 =>
        cases h4
        exact ⟨_, _, _, rfl, hs, h1, h3⟩
theorem Dp.lst' {K : PySem.W.Frag} {H : Hp} {v : V} {ds : List PyData} (h : Dp K H v (.list ds)) : ∃ a xs, v = .ref a ∧ SqL K H a xs ∧ DpAll K H xs ds := by
  cases h with
  | lst hs ha => exact ⟨_, _, rfl, hs, ha⟩
theorem Dp.int' {K : PySem.W.Frag} {H : Hp} {v : V} {i : Int} (h : Dp K H v (.int i)) : v = .int i := by cases h; rfl
theorem Dp.str' {K : PySem.W.Frag} {H : Hp} {v : V} {x : Str} (h : Dp K H v (.str x)) : v = .str x := by cases h; rfl
theorem Dp.bl' {K : PySem.W.Frag} {H : Hp} {v : V} {x : Bool} (h : Dp K H v (.bool x)) : v = .bl x := by cases h; rfl
theorem Dp.non' {K : PySem.W.Frag} {H : Hp} {v : V} (h : Dp K H v .none) : v = .non := by cases h; rfl
end Bx
namespace Bx
open PySem PySem.Spec PyProof.Rows L2
/-- all that is no list is as it was -/
def SameT (H H' : Hp) : Prop := ∀ a o, H a = some o → (∀ ys, o ≠ .lst ys) → H' a = some o
theorem SameT.refl (H : Hp) : SameT H H := fun _ _ h _ => h
theorem SameT.trans {H H1 H2 : Hp} (x : SameT H H1) (y : SameT H1 H2) : SameT H H2 := fun a o h n => y a o (x a o h n) n
theorem SameT.of {H H' : Hp} (e : Same H H') : SameT H H' := fun a o h _ => e a o h
theorem SameT.put {H : Hp} {a : Addr} {xs : List V} {o : HO} (h : H a = some (.lst xs)) : SameT H (L2.upd H a o) := fun b u q n => by
  have nb : b ≠ a := fun z => by
    rw [z, h] at q
    exact n _ (Option.some.inj q).symm
  rw [upd_ne nb]
  exact q
theorem SameT.new {H : Hp} {p : Addr} {o : HO} (h : H p = none) : SameT H (L2.upd H p o) := .of (same_new h)
theorem SameT.seqT {K : PySem.W.Frag} {H H' : Hp} {a : Addr} {xs : List V} (e : SameT H H') (h : SqT K H a xs) : SqT K H' a xs := by
  rcases h with (h | ⟨o, h⟩) | h
  · exact .inl (.inl (e _ _ h fun _ z => by cases z))
  · exact .inl (.inr ⟨o, e _ _ h fun _ z => by cases z⟩)
  · exact .inr h
mutual
/-- no list within -/
def noL : PyData → Bool
  | .none => true
  | .bool _ => true
  | .int _ => true
  | .str _ => true
  | .list _ => false
  | .tuple ds => noLs ds
  | .dict _ => false
def noLs : List PyData → Bool
  | [] => true
  | d :: ds => noL d && noLs ds
end
mutual
theorem Dp.sameT {K : PySem.W.Frag} {H H' : Hp} (e : SameT H H') : ∀ {d : PyData} {v : V}, noL d = true → Dp K H v d → Dp K H' v d
  | .none, _, _, h => by cases h; exact .non
  | .bool _, _, _, h => by cases h; exact .bl _
  | .int _, _, _, h => by cases h; exact .int _
  | .str _, _, _, h => by cases h; exact .str _
  | .list _, _, n, _ => by cases n
  | .tuple _, _, n, h => by
    cases h with
    | tup hs ha => exact .tup (e.seqT hs) (Dp.sameTs e (by rw [noL] at n; exact n) ha)
  | .dict _, _, _, h => by cases h
theorem Dp.sameTs {K : PySem.W.Frag} {H H' : Hp} (e : SameT H H') : ∀ {ds : List PyData} {vs : List V}, noLs ds = true → DpAll K H vs ds → DpAll K H' vs ds
  | [], _, _, h => by cases h; exact .nil
  | _ :: _, _, n, h => by
    cases h with
    | cons h1 h2 =>
      rw [noLs, Bool.and_eq_true] at n
      exact .cons (Dp.sameT e n.1 h1) (Dp.sameTs e n.2 h2)
end
theorem noLs_map {α : Type} {f : α → PyData} (h : ∀ x, noL (f x) = true) : ∀ l : List α, noLs (l.map f) = true
  | [] => rfl
  | x :: l => by rw [List.map_cons, noLs, h x, noLs_map h l]; rfl
end Bx
namespace Bx
open PySem PySem.Spec PyProof.Rows L2
mutual
/-- no list or tuple has more than 90000 items -/
def smallD : PyData → Bool
  | .list ds => decide (ds.length ≤ 90000) && smallDs ds
  | .tuple ds => decide (ds.length ≤ 90000) && smallDs ds
  | _ => true
def smallDs : List PyData → Bool
  | [] => true
  | d :: ds => smallD d && smallDs ds
end
theorem smallDs_get : ∀ {ds : List PyData} {i : Nat} {d : PyData}, smallDs ds = true → ds[i]? = some d → smallD d = true
  | [], _, _, _, h => by cases h
  | _ :: _, 0, _, s, h => by
    cases h
    rw [smallDs, Bool.and_eq_true] at s
    exact s.1
  | _ :: ds, i + 1, _, s, h => by
    rw [smallDs, Bool.and_eq_true] at s
    exact smallDs_get (ds := ds) (i := i) s.2 (by simpa using h)
theorem small_ofL {ds : List PyData} (h : smallD (.list ds) = true) : ds.length ≤ 90000 ∧ ∀ {i : Nat} {d : PyData}, ds[i]? = some d → smallD d = true := by
  rw [smallD, Bool.and_eq_true] at h
  exact ⟨of_decide_eq_true h.1, smallDs_get h.2⟩
theorem small_ofT {ds : List PyData} (h : smallD (.tuple ds) = true) : ds.length ≤ 90000 ∧ ∀ {i : Nat} {d : PyData}, ds[i]? = some d → smallD d = true := by
  rw [smallD, Bool.and_eq_true] at h
  exact ⟨of_decide_eq_true h.1, smallDs_get h.2⟩
theorem smallDs_map {α : Type} {f : α → PyData} (h : ∀ x, smallD (f x) = true) : ∀ l : List α, smallDs (l.map f) = true
  | [] => rfl
  | x :: l => by rw [List.map_cons, smallDs, h x, smallDs_map h l]; rfl
theorem smallL {ds : List PyData} (h : ds.length ≤ 90000) (h2 : smallDs ds = true) : smallD (.list ds) = true := by rw [smallD, h2, decide_eq_true h]; rfl
end Bx
namespace Bx
open PySem PySem.Spec PyProof.Rows L2
theorem depthAll_map {α : Type} {f : α → PyData} {n : Nat} (h : ∀ x, (f x).depth ≤ n) : ∀ l : List α, PyData.depthAll (l.map f) ≤ n
  | [] => Nat.zero_le _
  | x :: l => by
    rw [List.map_cons, PyData.depthAll]
    exact Nat.max_le.mpr ⟨h x, depthAll_map h l⟩
end Bx

-- needs deep
/-! pairs of numbers, their runs, their letters -/
namespace Bx
open PySem PySem.Spec PyProof.Rows L2
/-- a pair with numbers from 0 on, not both 0, below 2 ^ 4000 -/
def okP (x y : Nat) : Prop := ¬ (x = 0 ∧ y = 0) ∧ x < 2 ^ 4000 ∧ y < 2 ^ 4000
def PairAt (K : PySem.W.Frag) (H : Hp) (v : V) (x y : Nat) : Prop := ∃ a, v = .ref a ∧ SqT K H a [.int (x : Int), .int (y : Int)]
theorem PairAt.same {K : PySem.W.Frag} {H H' : Hp} {v : V} {x y : Nat} (h : PairAt K H v x y) (e : Same H H') : PairAt K H' v x y := by
  obtain ⟨a, e1, h⟩ := h
  exact ⟨a, e1, seqT e h⟩
theorem at2_0 (a b : V) : atI [a, b] 0 = some a := rfl
theorem at2_1 (a b : V) : atI [a, b] 1 = some b := rfl
/-- the runs from the top: true is X -/
def R (x y : Nat) : List (Bool × Nat) :=
  if h : 0 < x ∧ 0 < y ∧ x ≠ y then
    if x > y then (true, (x - 1) / y) :: R (x - (x - 1) / y * y) y else (false, (y - 1) / x) :: R x (y - (y - 1) / x * x)
  else []
termination_by x + y
decreasing_by
  · have h1 : 0 < (x - 1) / y := Nat.div_pos (by omega) h.2.1
    have h2 : 0 < (x - 1) / y * y := Nat.mul_pos h1 h.2.1
    omega
  · have h1 : 0 < (y - 1) / x := Nat.div_pos (by omega) h.1
    have h2 : 0 < (y - 1) / x * x := Nat.mul_pos h1 h.1
    omega
theorem R_nil {x y : Nat} (h : ¬ (0 < x ∧ 0 < y ∧ x ≠ y)) : R x y = [] := by rw [R, dif_neg h]
theorem R_x {x y : Nat} (h : 0 < y) (h2 : x > y) : R x y = (true, (x - 1) / y) :: R (x - (x - 1) / y * y) y := by
  rw [R, dif_pos ⟨by omega, h, by omega⟩, if_pos h2]
theorem R_y {x y : Nat} (h : 0 < x) (h2 : y > x) : R x y = (false, (y - 1) / x) :: R x (y - (y - 1) / x * x) := by
  rw [R, dif_pos ⟨h, by omega, by omega⟩, if_neg (by omega)]
theorem dm_le (x y : Nat) : (x - 1) / y * y ≤ x := Nat.le_trans (Nat.div_mul_le_self _ _) (Nat.sub_le _ _)
theorem dm_lt {x y : Nat} (h : 0 < y) (h2 : x > y) : x - (x - 1) / y * y < x ∧ 0 < x - (x - 1) / y * y := by
  have h1 : 0 < (x - 1) / y := Nat.div_pos (by omega) h
  have h3 : 0 < (x - 1) / y * y := Nat.mul_pos h1 h
  have h4 : (x - 1) / y * y ≤ x - 1 := Nat.div_mul_le_self _ _
  omega
theorem cast_div {x y : Nat} (h : 0 < x) : ((x : Int) - 1) / (y : Int) = (((x - 1) / y : Nat) : Int) := by
  rw [Int.natCast_ediv]
  congr 1
  omega
theorem cast_sub {x y : Nat} : (x : Int) - (((x - 1) / y : Nat) : Int) * (y : Int) = ((x - (x - 1) / y * y : Nat) : Int) := by
  rw [Int.ofNat_sub (dm_le x y), Int.natCast_mul]
def letS (b : Bool) : Str := if b then "X" else "Y"
def runD (r : Bool × Nat) : PyData := .tuple [.str (letS r.1), .int (r.2 : Int)]
def runsD (l : List (Bool × Nat)) : PyData := .list (l.map runD)
/-- the letters from the top, one by one -/
def L (x y : Nat) : List Bool :=
  if h : 0 < x ∧ 0 < y ∧ x ≠ y then
    if x > y then true :: L (x - y) y else false :: L x (y - x)
  else []
termination_by x + y
theorem L_nil {x y : Nat} (h : ¬ (0 < x ∧ 0 < y ∧ x ≠ y)) : L x y = [] := by rw [L, dif_neg h]
theorem L_x {x y : Nat} (h : 0 < y) (h2 : x > y) : L x y = true :: L (x - y) y := by rw [L, dif_pos ⟨by omega, h, by omega⟩, if_pos h2]
theorem L_y {x y : Nat} (h : 0 < x) (h2 : y > x) : L x y = false :: L x (y - x) := by rw [L, dif_pos ⟨h, by omega, by omega⟩, if_neg (by omega)]
theorem L_xs {y : Nat} (h : 0 < y) : ∀ (k x : Nat), k * y < x → L x y = List.replicate k true ++ L (x - k * y) y
  | 0, x, _ => by simp
  | k + 1, x, h2 => by
    have e : (k + 1) * y = k * y + y := Nat.succ_mul k y
    rw [e] at h2
    rw [L_x h (by omega), L_xs h k (x - y) (by omega), List.replicate_succ, List.cons_append, show x - y - k * y = x - (k + 1) * y by omega]
theorem L_ys {x : Nat} (h : 0 < x) : ∀ (k y : Nat), k * x < y → L x y = List.replicate k false ++ L x (y - k * x)
  | 0, y, _ => by simp
  | k + 1, y, h2 => by
    have e : (k + 1) * x = k * x + x := Nat.succ_mul k x
    rw [e] at h2
    rw [L_y h (by omega), L_ys h k (y - x) (by omega), List.replicate_succ, List.cons_append, show y - x - k * x = y - (k + 1) * x by omega]
def spell (l : List (Bool × Nat)) : List Bool := l.flatMap fun r => List.replicate r.2 r.1
theorem spell_R (x y : Nat) : spell (R x y) = L x y := by
  by_cases h : 0 < x ∧ 0 < y ∧ x ≠ y
  · by_cases h2 : x > y
    · have d := dm_lt h.2.1 h2
      rw [R_x h.2.1 h2]
      show List.replicate _ true ++ spell (R _ y) = _
      rw [spell_R (x - (x - 1) / y * y) y, ← L_xs h.2.1 ((x - 1) / y) x (by omega)]
    · have d := dm_lt h.1 (show y > x by omega)
      rw [R_y h.1 (by omega)]
      show List.replicate _ false ++ spell (R x _) = _
      rw [spell_R x (y - (y - 1) / x * x), ← L_ys h.1 ((y - 1) / x) y (by omega)]
  · rw [R_nil h, L_nil h]
    rfl
termination_by x + y
theorem spell_len : ∀ l : List (Bool × Nat), (spell l).length = (l.map (·.2)).sum
  | [] => rfl
  | r :: l => by
    show (List.replicate r.2 r.1 ++ spell l).length = _
    rw [List.length_append, List.length_replicate, spell_len l, List.map_cons, List.sum_cons]
theorem L_le (x y : Nat) : (L x y).length ≤ x + y := by
  by_cases h : 0 < x ∧ 0 < y ∧ x ≠ y
  · by_cases h2 : x > y
    · rw [L_x h.2.1 h2, List.length_cons]
      have := L_le (x - y) y
      omega
    · rw [L_y h.1 (by omega), List.length_cons]
      have := L_le x (y - x)
      omega
  · rw [L_nil h]
    exact Nat.zero_le _
termination_by x + y
/-- runs halve the numbers: there are few -/
theorem R_len (n : Nat) : ∀ (x y : Nat), x * y < 2 ^ n → (R x y).length ≤ n := by
  induction n with
  | zero =>
    intro x y h
    have z : ¬ (0 < x ∧ 0 < y ∧ x ≠ y) := fun ⟨h1, h2, _⟩ => by
      have := Nat.mul_pos h1 h2
      omega
    rw [R_nil z]
    exact Nat.le_refl _
  | succ n ih =>
    intro x y h
    by_cases c : 0 < x ∧ 0 < y ∧ x ≠ y
    · by_cases c2 : x > y
      · rw [R_x c.2.1 c2, List.length_cons]
        have d := dm_lt c.2.1 c2
        have e : (x - 1) / y * y + (x - 1) % y = x - 1 := by rw [Nat.mul_comm]; exact Nat.div_add_mod _ _
        have m : (x - 1) % y < y := Nat.mod_lt _ c.2.1
        have p : 0 < (x - 1) / y := Nat.div_pos (by omega) c.2.1
        have p2 : y ≤ (x - 1) / y * y := Nat.le_mul_of_pos_left _ p
        have half : 2 * (x - (x - 1) / y * y) ≤ x := by omega
        have q : 2 * ((x - (x - 1) / y * y) * y) ≤ x * y := by
          rw [← Nat.mul_assoc]
          exact Nat.mul_le_mul_right _ half
        have := ih (x - (x - 1) / y * y) y (by rw [Nat.pow_succ] at h; omega)
        omega
      · have c3 : y > x := by omega
        rw [R_y c.1 c3, List.length_cons]
        have d := dm_lt c.1 c3
        have e : (y - 1) / x * x + (y - 1) % x = y - 1 := by rw [Nat.mul_comm]; exact Nat.div_add_mod _ _
        have m : (y - 1) % x < x := Nat.mod_lt _ c.1
        have p : 0 < (y - 1) / x := Nat.div_pos (by omega) c.1
        have p2 : x ≤ (y - 1) / x * x := Nat.le_mul_of_pos_left _ p
        have half : 2 * (y - (y - 1) / x * x) ≤ y := by omega
        have q : 2 * (x * (y - (y - 1) / x * x)) ≤ x * y := by
          rw [show 2 * (x * (y - (y - 1) / x * x)) = x * (2 * (y - (y - 1) / x * x)) by rw [← Nat.mul_assoc, ← Nat.mul_assoc, Nat.mul_comm 2 x]]
          exact Nat.mul_le_mul_left _ half
        have := ih x (y - (y - 1) / x * x) (by rw [Nat.pow_succ] at h; omega)
        omega
    · rw [R_nil c]
      exact Nat.zero_le _
theorem R_len' {x y : Nat} (h : okP x y) : (R x y).length ≤ 8000 := by
  refine R_len 8000 x y ?_
  by_cases hy : 0 < y
  · have e : (2 : Nat) ^ 8000 = 2 ^ 4000 * 2 ^ 4000 := (Nat.pow_add 2 4000 4000)
    rw [e]
    exact Nat.mul_lt_mul'' h.2.1 h.2.2
  · have : y = 0 := by omega
    rw [this, Nat.mul_zero]
    exact Nat.pow_pos (by decide)
end Bx
namespace Bx
open PySem PySem.Spec PyProof.Rows L2
theorem noL_runD (r : Bool × Nat) : noL (runD r) = true := rfl
theorem PairAt.sameT {K : PySem.W.Frag} {H H' : Hp} {v : V} {x y : Nat} (h : PairAt K H v x y) (e : SameT H H') : PairAt K H' v x y := by
  obtain ⟨a, e1, h⟩ := h
  exact ⟨a, e1, e.seqT h⟩
theorem nat_abs {x n : Nat} (h : x < 2 ^ n) : ((x : Int)).natAbs < 2 ^ n := by rw [Int.natAbs_natCast]; exact h
theorem okDiv {i : Int} {y : Nat} (h0 : 0 < y) (h : y < 2 ^ 4000) : CDivW i (y : Int) := wide_div (by omega) (nat_abs h) (by decide) (by decide)
theorem okMul {x y : Nat} (h : x < 2 ^ 4000) (h2 : y < 2 ^ 4000) : CMulW (x : Int) (y : Int) := wide_mul (nat_abs h) (nat_abs h2) (by decide) (by decide) (by decide)
end Bx
namespace Bx
open PySem PySem.Spec PyProof.Rows L2
theorem sum_casts : ∀ l : List (Bool × Nat), ((l.map fun r => ((r.2 : Nat) : Int)).sum) = (((l.map (·.2)).sum : Nat) : Int)
  | [] => rfl
  | r :: l => by
    rw [List.map_cons, List.sum_cons, List.map_cons, List.sum_cons, sum_casts l, Int.natCast_add]
theorem sumR (x y : Nat) : ((R x y).map fun r => ((r.2 : Nat) : Int)).sum = (((L x y).length : Nat) : Int) := by rw [sum_casts, ← spell_len, spell_R]
theorem okP_small {x y : Nat} (h : ¬ (x = 0 ∧ y = 0)) (hx : x ≤ 1000000) (hy : y ≤ 1000000) : okP x y := by
  have e : 1000000 < 2 ^ 4000 := Nat.lt_of_lt_of_le (by decide : 1000000 < 2 ^ 20) (Nat.pow_le_pow_right (by decide) (by decide))
  exact ⟨h, Nat.lt_of_le_of_lt hx e, Nat.lt_of_le_of_lt hy e⟩
/-- a run of a list of runs -/
theorem run_get {K : PySem.W.Frag} {H : Hp} {us : List V} {l : List (Bool × Nat)} {i : Nat} {u : V} (g : DpAll K H us (l.map runD)) (hu : us[i]? = some u) :
    ∃ (c : Bool) (n : Nat) (p : Addr), l[i]? = some (c, n) ∧ u = .ref p ∧ SqT K H p [.str (letS c), .int (n : Int)] := by
  obtain ⟨d, hd, du⟩ := DpAll.get g hu
  obtain ⟨⟨c, n⟩, hr, rfl⟩ : ∃ r, l[i]? = some r ∧ runD r = d := by
    rw [List.getElem?_map] at hd
    cases q : l[i]? with
    | none => rw [q] at hd; cases hd
    | some r => rw [q] at hd; exact ⟨r, rfl, Option.some.inj hd⟩
  obtain ⟨p, a1, a2, rfl, hp, e1, e3⟩ := Dp.pair du
  cases Dp.str' e1
  cases Dp.int' e3
  exact ⟨c, n, p, hr, rfl, hp⟩
end Bx
namespace Bx
open PySem PySem.Spec PyProof.Rows L2
theorem runsD_depth (l : List (Bool × Nat)) : (runsD l).depth ≤ 2 := by
  show PyData.depthAll (l.map runD) + 1 ≤ 2
  have := depthAll_map (f := runD) (n := 1) (fun _ => Nat.le_refl _) l
  omega
theorem runsD_small {x y : Nat} (h : okP x y) : smallD (runsD (R x y)) = true := by
  refine smallL ?_ (smallDs_map (fun _ => rfl) _)
  have := R_len' h
  rw [List.length_map]
  omega
theorem Dp_runs {K : PySem.W.Frag} {H : Hp} {f : Addr} {us : List V} {l : List (Bool × Nat)} (h : SqL K H f us) (g : DpAll K H us (l.map runD)) : Dp K H (.ref f) (runsD l) := .lst h g
theorem letS_inj {a b : Bool} (h : a ≠ b) : decide (V.str (letS a) = V.str (letS b)) = false := by
  cases a <;> cases b
  · exact absurd rfl h
  · decide +kernel
  · decide +kernel
  · exact absurd rfl h
end Bx
namespace Bx
open PySem PySem.Spec PyProof.Rows L2
theorem beq_letS (a b : Bool) : (letS a == letS b) = (a == b) := by
  cases a <;> cases b <;> decide +kernel
theorem eqv_runD (x y : Bool × Nat) : PyData.eqv (runD x) (runD y) = decide (x = y) := by
  unfold runD
  simp only [PyData.eqv, PyData.eqvAll, beq_letS, Bool.and_true]
  rw [Bool.eq_iff_iff]
  simp [Prod.ext_iff]
  intro _
  omega
theorem canLay_runD (x : Bool × Nat) : (runD x).canLay0 = true := by
  obtain ⟨c, n⟩ := x
  cases c
  · show (PyData.canLay0 (.str "Y") && (true && true)) = true
    decide +kernel
  · show (PyData.canLay0 (.str "X") && (true && true)) = true
    decide +kernel
theorem canLay_map {α : Type} {f : α → PyData} (h : ∀ x, (f x).canLay0 = true) : ∀ l : List α, PyData.canLayAll0 (l.map f) = true
  | [] => by simp [PyData.canLayAll0]
  | x :: l => by
    rw [List.map_cons, PyData.canLayAll0, h x, canLay_map h l]
    rfl
theorem shaped_runD (x : Bool × Nat) : SeqAt.shaped (runD x) = true := by
  unfold SeqAt.shaped
  rw [canLay_runD]
  rfl
theorem shaped_runs (l : List (Bool × Nat)) : SeqAt.shaped (runsD l) = true := by
  unfold SeqAt.shaped
  have h : (runsD l).canLay0 = true := by
    show (PyData.list _).canLay0 = true
    rw [PyData.canLay0]
    exact canLay_map canLay_runD l
  have d := runsD_depth l
  rw [h, decide_eq_true (by omega)]
  rfl
theorem eqv_nil (l : List (Bool × Nat)) : PyData.eqv (runsD l) (.list []) = decide (l = []) := by
  cases l with
  | nil => rfl
  | cons a l => rfl
end Bx

-- needs pairs
namespace Bx
open PySem PySem.Spec PyProof.Rows L2
def bot (x y : Nat) : Str := if y = 0 then "flat" else if x = 0 then "steep" else "even"
end Bx

-- needs lists deep pairs bottoms
/-! a table: modulus, flats, steeps, starts, rows -/
namespace Bx
open PySem PySem.Spec PyProof.Rows L2
structure Tb where
  m : Nat
  flats : List Bool
  steeps : List Bool
  starts : List Nat
  rows : List (Nat × Nat × Bool)
def boolsD (l : List Bool) : PyData := .tuple (l.map .bool)
def natsD (l : List Nat) : PyData := .tuple (l.map fun n : Nat => PyData.int (n : Int))
def rowD (r : Nat × Nat × Bool) : PyData := .tuple [.int (r.1 : Int), .int (r.2.1 : Int), .bool r.2.2]
def rowsD (l : List (Nat × Nat × Bool)) : PyData := .tuple (l.map rowD)
def tabD (t : Tb) : PyData := .tuple [.int (t.m : Int), boolsD t.flats, boolsD t.steeps, natsD t.starts, rowsD t.rows]
structure Tok (t : Tb) : Prop where
  md : t.m = 1 ∨ t.m = 2 ∨ t.m = 3 ∨ t.m = 6
  fl : t.flats.length = t.m
  sl : t.steeps.length = t.m
  tl : t.starts.length = t.m
  r0 : 0 < t.rows.length
  r1 : t.rows.length ≤ 1000
  st : ∀ s ∈ t.starts, s < t.rows.length
  rw1 : ∀ r ∈ t.rows, r.1 < t.rows.length
  rw2 : ∀ r ∈ t.rows, r.2.1 < t.rows.length
theorem Tok.m0 {t : Tb} (h : Tok t) : 0 < t.m ∧ t.m ≤ 6 := by
  rcases h.md with e | e | e | e <;> rw [e] <;> decide
theorem Dp.tup' {K : PySem.W.Frag} {H : Hp} {v : V} {ds : List PyData} (h : Dp K H v (.tuple ds)) : ∃ a xs, v = .ref a ∧ SqT K H a xs ∧ DpAll K H xs ds := by
  cases h with
  | tup h1 h2 => exact ⟨_, _, rfl, h1, h2⟩
theorem Dp.bools {K : PySem.W.Frag} {H : Hp} {v : V} {l : List Bool} (h : Dp K H v (boolsD l)) : ∃ a, v = .ref a ∧ SqT K H a (l.map V.bl) := by
  obtain ⟨a, xs, rfl, h1, h2⟩ := Dp.tup' h
  have e : xs = l.map V.bl := by
    clear h h1
    induction l generalizing xs with
    | nil => cases h2; rfl
    | cons b l ih =>
      cases h2 with
      | cons h3 h4 =>
        rw [Dp.bl' h3, ih _ h4]
        rfl
  subst e
  exact ⟨a, rfl, h1⟩
theorem Dp.nats {K : PySem.W.Frag} {H : Hp} {v : V} {l : List Nat} (h : Dp K H v (natsD l)) : ∃ a, v = .ref a ∧ SqT K H a (l.map fun n : Nat => V.int (n : Int)) := by
  obtain ⟨a, xs, rfl, h1, h2⟩ := Dp.tup' h
  have e : xs = l.map fun n : Nat => V.int (n : Int) := by
    clear h h1
    induction l generalizing xs with
    | nil => cases h2; rfl
    | cons b l ih =>
      cases h2 with
      | cons h3 h4 =>
        rw [Dp.int' h3, ih _ h4]
        rfl
  subst e
  exact ⟨a, rfl, h1⟩
theorem Dp.row {K : PySem.W.Frag} {H : Hp} {v : V} {r : Nat × Nat × Bool} (h : Dp K H v (rowD r)) : ∃ a, v = .ref a ∧ SqT K H a [.int (r.1 : Int), .int (r.2.1 : Int), .bl r.2.2] := by
  obtain ⟨a, xs, rfl, h1, h2⟩ := Dp.tup' h
  cases h2 with
  | cons h3 h4 =>
    cases h4 with
    | cons h5 h6 =>
      cases h6 with
      | cons h7 h8 =>
        cases h8
        cases Dp.int' h3
        cases Dp.int' h5
        cases Dp.bl' h7
        exact ⟨a, rfl, h1⟩
theorem Dp.rows {K : PySem.W.Frag} {H : Hp} {v : V} {l : List (Nat × Nat × Bool)} (h : Dp K H v (rowsD l)) : ∃ a us, v = .ref a ∧ SqT K H a us ∧ us.length = l.length ∧ ∀ (i : Nat) (r : Nat × Nat × Bool), l[i]? = some r → ∃ p, us[i]? = some (.ref p) ∧ SqT K H p [.int (r.1 : Int), .int (r.2.1 : Int), .bl r.2.2] := by
  obtain ⟨a, us, rfl, h1, h2⟩ := Dp.tup' h
  have hl := DpAll.length h2
  rw [List.length_map] at hl
  refine ⟨a, us, rfl, h1, hl, fun i r hr => ?_⟩
  have hi : i < us.length := by rw [hl]; exact (List.getElem?_eq_some_iff.mp hr).1
  obtain ⟨d, hd, dz⟩ := DpAll.get h2 (List.getElem?_eq_getElem hi)
  rw [List.getElem?_map, hr] at hd
  cases hd
  obtain ⟨p, e, hp⟩ := Dp.row dz
  exact ⟨p, by rw [List.getElem?_eq_getElem hi, e], hp⟩
/-- the parts of a table that stands in the heap -/
structure TabAt (K : PySem.W.Frag) (H : Hp) (a : Addr) (t : Tb) (f s b r : V) : Prop where
  sq : SqT K H a [.int (t.m : Int), f, s, b, r]
  fd : Dp K H f (boolsD t.flats)
  sd : Dp K H s (boolsD t.steeps)
  bd : Dp K H b (natsD t.starts)
  rd : Dp K H r (rowsD t.rows)
theorem Dp.tab {K : PySem.W.Frag} {H : Hp} {v : V} {t : Tb} (h : Dp K H v (tabD t)) : ∃ a f s b r, v = .ref a ∧ TabAt K H a t f s b r := by
  obtain ⟨a, xs, rfl, h1, h2⟩ := Dp.tup' h
  cases h2 with
  | cons g1 h2 =>
    cases h2 with
    | cons g2 h2 =>
      cases h2 with
      | cons g3 h2 =>
        cases h2 with
        | cons g4 h2 =>
          cases h2 with
          | cons g5 h2 =>
            cases h2
            cases Dp.int' g1
            exact ⟨a, _, _, _, _, rfl, h1, g2, g3, g4, g5⟩
theorem TabAt.dp {K : PySem.W.Frag} {H : Hp} {a : Addr} {t : Tb} {f s b r : V} (h : TabAt K H a t f s b r) : Dp K H (.ref a) (tabD t) := .tup h.sq (.cons (.int _) (.cons h.fd (.cons h.sd (.cons h.bd (.cons h.rd .nil)))))
theorem noL_bools (l : List Bool) : noL (boolsD l) = true := by
  unfold boolsD
  rw [noL]
  exact noLs_map (f := PyData.bool) (fun _ => rfl) l
theorem noL_nats (l : List Nat) : noL (natsD l) = true := by
  unfold natsD
  rw [noL]
  exact noLs_map (f := fun n : Nat => PyData.int (n : Int)) (fun _ => rfl) l
theorem noL_rows (l : List (Nat × Nat × Bool)) : noL (rowsD l) = true := by
  unfold rowsD
  rw [noL]
  exact noLs_map (f := rowD) (fun _ => rfl) l
theorem noL_tab (t : Tb) : noL (tabD t) = true := by
  unfold tabD
  rw [noL, noLs, noLs, noLs, noLs, noLs, noL_bools, noL_bools, noL_nats, noL_rows]
  rfl
/-! what a table tells -/
def goT (t : Tb) (s : Nat) (l : Bool) : Nat := match t.rows[s]? with
  | some r => if l then r.1 else r.2.1
  | none => 0
def goodT (t : Tb) (s : Nat) : Bool := match t.rows[s]? with
  | some r => r.2.2
  | none => false
theorem goT_lt {t : Tb} (h : Tok t) {s : Nat} (hs : s < t.rows.length) (l : Bool) : goT t s l < t.rows.length := by
  unfold goT
  rw [List.getElem?_eq_getElem hs]
  dsimp only
  have hm := List.getElem_mem hs
  split
  · exact h.rw1 _ hm
  · exact h.rw2 _ hm
/-- the spot behind many letters -/
def goN (t : Tb) (l : Bool) : Nat → Nat → Nat
  | 0, s => s
  | n + 1, s => goN t l n (goT t s l)
def begT (t : Tb) (g : Nat) : Nat := (t.starts[g % t.m]?).getD 0
/-- is the pair in the set -/
def hasT (t : Tb) (x y : Nat) : Bool :=
  if y = 0 then (t.flats[Nat.gcd x y % t.m]?).getD false
  else if x = 0 then (t.steeps[Nat.gcd x y % t.m]?).getD false
  else goodT t (((R x y).reverse).foldl (fun s r => goN t r.1 r.2 s) (begT t (Nat.gcd x y)))
end Bx

-- needs lists
-- imports HandS.ClsMeth HandS.HeadNt
/-! own classes: made by name or through a local name, classmethods without arguments, `in` by an own __contains__; a head that also reads defs at any address -/
namespace Bx
open PySem PySem.Spec PyProof.Rows L2
section
variable {X : Cx} {CX : CXT} {k i : Nat} {C f pa g : Addr} {mc : Value} {ps : List Str} {sp : Sp} {E : XK} {x m : Str} {p pos apos : Pos} {o e : Expr} {es : List Expr} {t : TA} {ta : TE}
theorem pe_mkG (M : Mk X.K C f) (G : GoodM X.prog X.w X.K X.mg X.base CX k f ps sp) (hr : Room (k + 1) X.A) (hg : Gl X x) (hm : X.mg x = some (.ref C)) (hx : Passes CX X E)
    (ha : PA X (e :: es) t) (hdb : (x == ("__debug__" : Str)) = false := by decide) (he : starEach (e :: es) X.env = (false, eval e X.env) :: starEach es X.env := by rfl) (hpl : (backTo pos (starEach es X.env)).any (·.1) = false := by rfl) :
    PE X (.Call (.Name x p) (e :: es) [] pos) (tMake C sp [] E t) := by
  obtain ⟨fd, F, b⟩ := G
  exact pe_make M F hr hg hm b .nil hx ha hdb he hpl
/-- a local name that holds a class, called -/
def tMakeV (i : Nat) (C : Addr) (sp : Sp) (E : XK) (t : TA) : TE := fun σ H Q => σ[i]? = some (some (.ref C)) ∧ t σ H fun vs H1 => ∀ x dx, H1 x = none → H1 dx = none → dx ≠ x →
  sp (.ref x :: (vs ++ [])) (upd (upd H1 dx (.own x)) x (.ins C dx [])) (fun v H2 => v = .non ∧ Q (.ref x) H2) E
theorem pe_mkV (M : Mk X.K C f) (G : GoodM X.prog X.w X.K X.mg X.base CX k f ps sp) (hr : Room (k + 1) X.A) (hN : X.N[i]? = some x) (hv : Vis X.env.scope x) (hx : Passes CX X E)
    (ha : PA X (e :: es) t) (hdb : (x == ("__debug__" : Str)) = false := by decide) (hcd : (x == ("__classdict__" : Str)) = false := by decide) (he : starEach (e :: es) X.env = (false, eval e X.env) :: starEach es X.env := by rfl) (hpl : (backTo pos (starEach es X.env)).any (·.1) = false := by rfl) :
    PE X (.Call (.Name x p) (e :: es) [] pos) (tMakeV i C sp E t) := by
  obtain ⟨fd, F, b⟩ := G
  refine ⟨fun pins s σ H Q I h => ?_⟩
  obtain ⟨hs, ht⟩ := h
  refine wpAny_Call_Name_kw (thn ((pe_var (pos := p) hN hv hdb hcd).run pins s σ H (fun v H1 => v = .ref C ∧ H1 = H) I ⟨.ref C, hs, rfl, rfl⟩) fun u s1 ⟨v, H1, I1, r1, q1⟩ => ?_)
  obtain ⟨rfl, rfl⟩ := q1
  cases r1
  refine PySem.W.callWith_K (h₀ := X.base) I.ok.mod.kin M.kp (thn (ha.run pos pins s1 σ _ _ I1 ht) fun us s2 ⟨vs, H2, I2, r, q⟩ => ⟨I2.kIn, ?_⟩) he hpl
  exact run_make M F hr b .nil hx I2 r q
/-- C.m() of a classmethod -/
theorem pe_cmeth0 {pl : Sem Bool} (he : PE X o ta) (r : ClX.CRead X.K C mc) (c : ClX.CMet X.K C mc m pa g) (F : FnR X.prog X.w X.K X.mg X.base CX k g sp) (hr : Room k X.A) (hx : Passes CX X E)
    (ht : eval (.Call (.Attribute o m apos) [] [] pos) X.env = (do
      let ov ← eval o X.env
      standAt apos.atName
      let (f, first) ← holding [ov] (getMethod ov m pl)
      callWith pos f first (backTo pos (starEach [] X.env)) (backToKw pos (keywordEach [] X.env))) := by rfl) :
    PE X (.Call (.Attribute o m apos) [] [] pos) (ClX.tCMeth C sp E ta tNil) := by
  refine ⟨fun pins s σ H Q I h => ?_⟩
  refine PySem.W.methodCall_KW (pl := pl) (thn (he.run pins s σ H _ I h) fun u s1 ⟨x, H1, I1, rx, ex, q⟩ => ?_) ht
  subst ex
  obtain rfl : u = Value.ref C := rx
  refine ClX.getmethcm_ok I1 r c fun s2 I2 => ?_
  exact PySem.W.callWith_M0 (K := X.K) (first := []) ⟨ClX.pin_at I2, I2.kIn⟩ c.fi (ClX.run_cm (us := []) F hr hx I2 .nil q)
/-- x in o, o an instance of the class at C with an own __contains__ -/
def rInC (C : Addr) (sp : Sp) (E : XK) : R2 := fun x y H Q => ∃ a dx fs, y = .ref a ∧ H a = some (.ins C dx fs) ∧ sp [.ref a, x] H (fun v H' => ∃ b : Bool, v = .bl b ∧ Q (.bl b) H') E
theorem op_inC (hs : Meth X.K C "__contains__" f) (F : FnR X.prog X.w X.K X.mg X.base CX k f sp) (hr : Room k X.A) (hx : Passes CX X E) : OpR X (compareOp .In) (rInC C sp E) := by
  intro pins s σ H x y v u Q I rx ry h
  obtain ⟨a, dx, fs, rfl, ha, hsp⟩ := h
  obtain rfl : u = Value.ref a := ry
  obtain ⟨mA, O, _, _, _, _⟩ := ins_get I.hok ha
  obtain ⟨od, J, _⟩ := O.look
  obtain ⟨m, hF⟩ := I.fr
  refine PySem.W.in_K hF I.ok.mod.kin J hs.at_ (by exact hs.fn) ?_
  refine thn (wpAny_call (run_fnR (us := [.ref a, v]) (vs := [.ref a, x]) F hr hx I (.cons rfl (.cons rx .nil)) hsp)) fun r s1 ⟨z, H1, I1, rz, b, ez, q⟩ => ?_
  subst ez
  obtain rfl : r = Value.bool b := rz
  exact wpAny_truthy_bool ⟨.bl b, H1, I1, rfl, q⟩
end
/-- what the head must tell of a class's reading -/
def creadB (K : PySem.W.Frag) (C : Addr) : Bool := PySem.W.readsIn K C (.type "type") && He.eqO (PySem.W.specialIn K (.ref C) "__getattribute__") (some (some (.builtin "type.__getattribute__")))
theorem creadB_ok {K : PySem.W.Frag} {C : Addr} (h : creadB K C = true) : ClX.CRead K C (.type "type") := by
  obtain ⟨h1, h2⟩ := He.ba h
  exact ⟨h1, He.eqO_ok h2⟩
def cmetB (K : PySem.W.Frag) (C : Addr) (m : Str) : Bool := He5.wrapB K C "classmethod" "classmethod.__get__" m && PySem.W.fnIn K (He5.wf K C "classmethod" m)
theorem cmetB_ok {K : PySem.W.Frag} {C : Addr} {m : Str} (h : cmetB K C m = true) : ClX.CMet K C (.type "type") m (He.ma K C m) (He5.wf K C "classmethod" m) := by
  obtain ⟨h1, h2⟩ := He.ba h
  exact He5.cmet_of h1 h2
/-- names, defs, defs at any address, more -/
abbrev AlZ : Type := He.AlD × He.AlD × Bool
def obsZ (n : Nat) (fa : List He.Fa) (fn : List He.DefD) (fna : List He5.DefA) (ex : PySem.W.Frag → Bool) (g : Addr → Option Obj) : AlZ :=
  (He.obsD fa fn (He.frG g (He5.asA g n)), He5.obsA [] fna (He.frG g (He5.asA g n)), ex (He.frG g (He5.asA g n)))
def valZ (fn : List He.DefD) (fna : List He5.DefA) : AlZ := (He.valD fn, He5.valA fna, true)
structure SaysZ (fa : List He.Fa) (fn : List He.DefD) (fna : List He5.DefA) (ex : PySem.W.Frag → Bool) (K : PySem.W.Frag) : Prop where
  d : He.SaysD fa fn K
  a : He5.SaysA [] fna K
  more : ex K = true
def hookZ (n : Nat) (fa : List He.Fa) (fn : List He.DefD) (fna : List He5.DefA) (ex : PySem.W.Frag → Bool) : PySem.W.Hook where
  α := AlZ
  obs := fun s => obsZ n fa fn fna ex s.heap.get?
  val := fun _ => valZ fn fna
  says := fun _ h => ∃ K : PySem.W.Frag, K.In h ∧ SaysZ fa fn fna ex K
  of := fun _ _ e => ⟨_, He.frG_in, ⟨congrArg (fun z : AlZ => z.1) e, congrArg (fun z : AlZ => z.2.1) e, congrArg (fun z : AlZ => z.2.2) e⟩⟩
  keeps := fun _ _ _ ⟨K, hK, c⟩ k => ⟨K, PySem.W.Frag.In.keeps hK k, c⟩
theorem obsZ_eq {n : Nat} {fa : List He.Fa} {fn : List He.DefD} {fna : List He5.DefA} {ex : PySem.W.Frag → Bool} {g : Addr → Option Obj} {s : Shared} (h : ∀ a, g a = s.heap.get? a) : obsZ n fa fn fna ex g = (hookZ n fa fn fna ex).obs s := by
  have e : g = s.heap.get? := funext h
  rw [e] <;> rfl
end Bx

-- needs clsrules
-- imports HandS.Star HandS.Codes HandS.Property KE.KOpsOwn
/-! own classes: made with *items, own operators, own == and ~, isinstance -/
namespace Bx
open PySem PySem.Spec PyProof.Rows L2
section
variable {X : Cx} {CX : CXT} {k i : Nat} {C f : Addr} {ps : List Str} {sp : Sp} {E : XK} {x m : Str} {p pos sp_ : Pos} {e : Expr} {te : TE}
/-- C(*items) -/
def tMakeS (K : PySem.W.Frag) (C : Addr) (sp : Sp) (E : XK) (te : TE) : TE := fun σ H Q => te σ H fun y H1 => ∃ a xs, y = V.ref a ∧ (SqT K H1 a xs ∨ SqL K H1 a xs) ∧ ∀ x dx, H1 x = none → H1 dx = none → dx ≠ x →
  sp (.ref x :: (xs ++ [])) (upd (upd H1 dx (.own x)) x (.ins C dx [])) (fun v H2 => v = .non ∧ Q (.ref x) H2) E
theorem pe_mkS (M : Mk X.K C f) (G : GoodM X.prog X.w X.K X.mg X.base CX k f ps sp) (hr : Room (k + 1) X.A) (hg : Gl X x) (hm : X.mg x = some (.ref C)) (hx : Passes CX X E) (he : PE X e te) (hd : (x == ("__debug__" : Str)) = false := by decide)
    (hst : starEach [.Starred e sp_] X.env = [(true, eval e X.env)] := by rfl) : PE X (.Call (.Name x p) [.Starred e sp_] [] pos) (tMakeS X.K C sp E te) := by
  obtain ⟨fd, F, b⟩ := G
  refine ⟨fun pins s σ H Q I h => ?_⟩
  refine wpAny_Call_Name_kw (ld_glob I hg hm ?_ hd)
  refine PySem.W.callWith_S (h₀ := X.base) I.ok.mod.kin M.kp (thn (he.run pins s σ H _ I h) fun v s1 ⟨y, H1, I1, ry, a, xs, ey, hxs, q⟩ => ?_) hst
  subst ey
  obtain rfl : v = Value.ref a := ry
  exact StX.star_any I1 hxs fun us s2 I2 rv => ⟨I2.kIn, run_make M F hr b .nil hx I2 rv q⟩
/-- an instance of the class at C -/
def InsAt (C : Addr) (H : Hp) (a : Addr) : Prop := ∃ dx fs, H a = some (.ins C dx fs)
/-- x op y of two instances of C by C's own method, which gives an object -/
def rBinC (C : Addr) (sp : Sp) (E : XK) : R2 := fun x y H Q => ∃ a b, x = .ref a ∧ y = .ref b ∧ InsAt C H a ∧ InsAt C H b ∧ sp [.ref a, .ref b] H (fun v H' => ∃ z, v = .ref z ∧ Q v H') E
theorem op_binC {op : Operator} (hs : Meth X.K C m f) (hd : PySem.dunder op.info.2 = m) (hsf : PySem.W.selfFirst X.K C = true) (F : FnR X.prog X.w X.K X.mg X.base CX k f sp) (hr : Room k X.A) (hx : Passes CX X E) : OpR X (binaryOp op) (rBinC C sp E) := by
  intro pins s σ H x y v u Q I rx ry h
  obtain ⟨a, b, rfl, rfl, ⟨dx, fs, ha⟩, ⟨dy, gs, hb⟩, hsp⟩ := h
  obtain rfl : v = Value.ref a := rx
  obtain rfl : u = Value.ref b := ry
  obtain ⟨mA, O, _⟩ := ins_get I.hok ha
  obtain ⟨mB, O', _⟩ := ins_get I.hok hb
  obtain ⟨od, J, _⟩ := O.look
  obtain ⟨od', J', _⟩ := O'.look
  obtain ⟨m', hF⟩ := I.fr
  refine PySem.W.binop_K hF I.ok.mod.kin J J'.type hsf (by rw [hd]; exact hs.at_) (by exact hs.fn) ?_
  refine thn (wpAny_call (run_fnR (us := [.ref a, .ref b]) (vs := [.ref a, .ref b]) F hr hx I (.cons rfl (.cons rfl .nil)) hsp)) fun r s1 ⟨z, H1, I1, rz, w, ez, q⟩ => ?_
  subst ez
  obtain rfl : r = Value.ref w := rz
  exact ⟨.ref w, H1, I1, rfl, q⟩
/-- x == y of two instances of C by C's own __eq__ -/
def rEqC (C : Addr) (sp : Sp) (E : XK) : R2 := fun x y H Q => ∃ a b, x = .ref a ∧ y = .ref b ∧ InsAt C H a ∧ InsAt C H b ∧ sp [.ref a, .ref b] H (fun v H' => ∃ z : Bool, v = .bl z ∧ Q v H') E
theorem op_eqC (hu : X.A.units < cLine) (hs : Meth X.K C "__eq__" f) (F : FnR X.prog X.w X.K X.mg X.base CX k f sp) (hr : Room k X.A) (hx : Passes CX X E) : OpR X (compareOp .Eq) (rEqC C sp E) := by
  intro pins s σ H x y v u Q I rx ry h
  obtain ⟨a, b, rfl, rfl, ⟨dx, fs, ha⟩, ⟨dy, gs, hb⟩, hsp⟩ := h
  obtain rfl : v = Value.ref a := rx
  obtain rfl : u = Value.ref b := ry
  obtain ⟨mA, O, _⟩ := ins_get I.hok ha
  obtain ⟨mB, O', _⟩ := ins_get I.hok hb
  obtain ⟨od, J, _⟩ := O.look
  obtain ⟨od', J', _⟩ := O'.look
  obtain ⟨m', hF⟩ := I.fr
  refine PySem.W.cmp_K (op := .Eq) (tb := .ref C) hu hF I.ok.mod.kin J J'.type (by simp [PySem.W.notFirst]) hs.at_ (by exact hs.fn) ?_
  refine thn (wpAny_call (run_fnR (us := [.ref a, .ref b]) (vs := [.ref a, .ref b]) F hr hx I (.cons rfl (.cons rfl .nil)) hsp)) fun r s1 ⟨z, H1, I1, rz, w, ez, q⟩ => ?_
  subst ez
  obtain rfl : r = Value.bool w := rz
  exact ⟨.bl w, H1, I1, rfl, q⟩
/-- ~x by C's own __invert__ -/
def rInvC (C : Addr) (sp : Sp) (E : XK) : V → Hp → VK → Prop := fun x H Q => ∃ a, x = .ref a ∧ InsAt C H a ∧ sp [.ref a] H Q E
theorem un_invC (hs : Meth X.K C "__invert__" f) (F : FnR X.prog X.w X.K X.mg X.base CX k f sp) (hr : Room k X.A) (hx : Passes CX X E) : UnR X (unaryOp .Invert) (rInvC C sp E) := by
  intro pins s σ H x v Q I rx h
  obtain ⟨a, rfl, ⟨dx, fs, ha⟩, hsp⟩ := h
  obtain rfl : v = Value.ref a := rx
  obtain ⟨mA, O, _⟩ := ins_get I.hok ha
  obtain ⟨od, J, _⟩ := O.look
  obtain ⟨m', hF⟩ := I.fr
  refine PySem.W.ksp_inv hF I.ok.mod.kin J hs.at_ (by exact hs.fn) ?_
  exact wpAny_call (run_fnR (us := [.ref a]) (vs := [.ref a]) F hr hx I (.cons rfl .nil) hsp)
end
section
variable {X : Cx} {CX : CXT} {k : Nat} {C f : Addr} {ps : List Str} {sp : Sp} {E : XK} {m : Str} {pos apos : Pos} {o e : Expr} {es : List Expr} {ta : TE} {t : TA} {pl : Sem Bool}
/-- o.m() -/
theorem pe_mG0 (he : PE X o ta) (c : L2.Cls X.K C) (hm : Meth X.K C m f) (G : GoodM X.prog X.w X.K X.mg X.base CX k f ps sp) (hr : Room k X.A) (hx : Passes CX X E)
    (ht : eval (.Call (.Attribute o m apos) [] [] pos) X.env = (do
      let ov ← eval o X.env
      standAt apos.atName
      let (f, first) ← holding [ov] (getMethod ov m pl)
      callWith pos f first (backTo pos (starEach [] X.env)) (backToKw pos (keywordEach [] X.env))) := by rfl) : PE X (.Call (.Attribute o m apos) [] [] pos) (tMeth C m sp [] E ta tNil) := by
  obtain ⟨fd, F, b⟩ := G
  exact pe_meth0 he c hm F hr b .nil hx ht
/-- o.m(e, ..) -/
theorem pe_mG (he : PE X o ta) (c : L2.Cls X.K C) (hm : Meth X.K C m f) (G : GoodM X.prog X.w X.K X.mg X.base CX k f ps sp) (hr : Room k X.A) (hx : Passes CX X E) (ha : PA X (e :: es) t)
    (hst : starEach (e :: es) X.env = (false, eval e X.env) :: starEach es X.env := by rfl) (hpl : (backTo pos (starEach es X.env)).any (·.1) = false := by rfl)
    (ht : eval (.Call (.Attribute o m apos) (e :: es) [] pos) X.env = (do
      let ov ← eval o X.env
      standAt apos.atName
      let (f, first) ← holding [ov] (getMethod ov m pl)
      callWith pos f first (backTo pos (starEach (e :: es) X.env)) (backToKw pos (keywordEach [] X.env))) := by rfl) : PE X (.Call (.Attribute o m apos) (e :: es) [] pos) (tMeth C m sp [] E ta t) := by
  obtain ⟨fd, F, b⟩ := G
  exact pe_meth he c hm F hr b .nil hx ha hst hpl ht
theorem hu1 {A : Around} (h : A.units + 64 < cLine) : A.units < cLine := Nat.lt_of_le_of_lt (Nat.le_add_right _ 64) h
end
section
variable {X : Cx} {CX : CXT} {k : Nat} {C f p g : Addr} {ps : List Str} {sp : Sp} {E : XK} {m kn x : Str} {pos apos : Pos} {o e : Expr} {kws : List Keyword} {ta : TE} {tk : TA} {pl : Sem Bool}
/-- e.f, a property -/
theorem pe_propG (he : PE X e ta) (c : L2.Cls X.K C) (hp : PropOf X.K C x p g) (G : GoodM X.prog X.w X.K X.mg X.base CX k g ps sp) (hr : Room (k + 1) X.A) (hx : Passes CX X.nox E)
    (hab : attributeBase e x X.env (eval e X.env) = eval e X.env) : PE X (.Attribute e x pos) (tProp C sp [] E ta) := by
  obtain ⟨fd, F, b⟩ := G
  exact pe_prop he c hp F hr b .nil hx hab
/-- a method that is called with one keyword, too -/
def GoodMK (P : Program) (w : World) (K : PySem.W.Frag) (mg : Str → Option Value) (base : Heap) (CX : CXT) (k : Nat) (f : Addr) (ps : List Str) (kn : Str) (sp : Sp) : Prop :=
  ∃ fd, FnOk P w K mg base CX k f fd ps sp ∧ Binds K fd ps [] ∧ ∀ (s : Shared) (u v : Value), BindsTo s fd ⟨[u], [(kn, v)]⟩ (ps.zip [u, v])
theorem GoodMK.good {P : Program} {w : World} {K : PySem.W.Frag} {mg : Str → Option Value} {base : Heap} {f : Addr} (h : GoodMK P w K mg base CX k f ps kn sp) : GoodM P w K mg base CX k f ps sp := by
  obtain ⟨fd, F, b, _⟩ := h
  exact ⟨fd, F, b⟩
/-- o.m(k = v) -/
def tMethK (C : Addr) (m : Str) (sp : Sp) (E : XK) (ta : TE) (tk : TA) : TE := fun σ H Q => ta σ H fun x H1 => ∃ a dx fs, x = .ref a ∧ H1 a = some (.ins C dx fs) ∧ fs.lookup m = none ∧ tk σ H1 fun zs H2 => ∃ z, zs = [z] ∧ sp [x, z] H2 Q E
theorem pe_mGk (he : PE X o ta) (c : L2.Cls X.K C) (hm : Meth X.K C m f) (G : GoodMK X.prog X.w X.K X.mg X.base CX k f ps kn sp) (hr : Room k X.A) (hx : Passes CX X E) (hkw : PK X kws tk)
    (hall : (backToKw pos (keywordEach kws X.env)).all (·.1.isSome) = true := by rfl) (hks : (backToKw pos (keywordEach kws X.env)).filterMap (·.1) = [kn] := by rfl)
    (hpl : ((backTo pos (starEach [] X.env)).any (·.1) || (backToKw pos (keywordEach kws X.env)).any (·.1.isNone)) = false := by rfl)
    (ht : eval (.Call (.Attribute o m apos) [] kws pos) X.env = (do
      let ov ← eval o X.env
      standAt apos.atName
      let (f, first) ← holding [ov] (getMethod ov m pl)
      callWith pos f first (backTo pos (starEach [] X.env)) (backToKw pos (keywordEach kws X.env))) := by rfl) :
    PE X (.Call (.Attribute o m apos) [] kws pos) (tMethK C m sp E ta tk) := by
  obtain ⟨fd, F, _, hb⟩ := G
  refine ⟨fun pins s σ H Q I h => ?_⟩
  refine PySem.W.methodCall_KW (pl := pl) (thn (he.run pins s σ H _ I h) fun u s1 ⟨x, H1, I1, rx, a, dx, fs, ex, ea, l, q⟩ => ?_) ht
  subst ex
  obtain rfl : u = Value.ref a := rx
  refine getmeth_ok I1 ea c hm l ?_
  refine PySem.W.callWith_KW0 (first := [.ref a]) (h₀ := X.base) I.ok.mod.kin hm.kp hall (thn (hkw.run pos pins s1 σ H1 _ I1 q) fun ws s2 ⟨zs, H2, I2, rz, z, ez, q2⟩ => ⟨I2.kIn, ?_⟩) hpl
  subst ez
  obtain ⟨w, rfl, rw'⟩ := vals1 rz
  rw [hks]
  refine wpAny_call (codeAny_mono (F.run X.A X.stack s2 H2 ⟨[.ref a], [(kn, w)]⟩ [.ref a, w] [.ref a, z] Q E hr I2.env0 (hb s2 (.ref a) w) (.cons rfl (.cons rw' .nil)) q2) fun r s' hq => ?_)
  cases r with
  | error e => exact hx pins σ H2 s2 e s' I2 hq
  | ok fl =>
    cases fl with
    | ret u => exact I2.after hq
    | next => exact False.elim hq
    | brk => exact False.elim hq
    | cont => exact False.elim hq
end
/-- what the head must tell of a property -/
def propB (K : PySem.W.Frag) (C : Addr) (f : Str) : Bool := He.eqO (PySem.W.findIn K (.ref C) f) (some (some (.ref (He.ma K C f)))) && (He.eqO (PySem.W.specialIn K (.ref (He.ma K C f)) "__get__") (some (some (.builtin "property.__get__"))) && (decide (PySem.W.takesIn K (.ref (He.ma K C f)) = some true) &&
  (match PySem.W.recIn K (He.ma K C f) "property" with
    | some (.ref _ :: _) => true
    | _ => false)))
theorem propB_ok {K : PySem.W.Frag} {C : Addr} {f : Str} (h : propB K C f = true) : PropOf K C f (He.ma K C f) (He5.wf K C "property" f) := by
  obtain ⟨h1, h⟩ := He.ba h
  obtain ⟨h2, h⟩ := He.ba h
  obtain ⟨h3, h4⟩ := He.ba h
  refine ⟨He.eqO_ok h1, He.eqO_ok h2, of_decide_eq_true h3, ?_⟩
  unfold He5.wf
  split at h4
  · rename_i g r e
    exact ⟨r, by rw [e]⟩
  · cases h4
/-- what isinstance asks of an own class, as one Bool -/
def insB (K : PySem.W.Frag) (C : Addr) : Bool := He.eqO (PySem.W.findIn K (.ref C) "__class__") (some (some (.builtin "object.__class__"))) && (He.eqO (PySem.W.specialIn K (.builtin "object.__class__") "__get__") (some (some (.builtin "getset_descriptor.__get__"))) &&
  (decide (PySem.W.takesIn K (.builtin "object.__class__") = some true) && (decide (PySem.W.mroIn K C (.type "object") = some true) && decide (PySem.W.kitOne K (.ref C) (.ref C) = some true))))
theorem insB_ok {K : PySem.W.Frag} {C : Addr} (c : L2.Cls K C) (h : insB K C = true) : C8.InsC K C := by
  obtain ⟨h1, h⟩ := He.ba h
  obtain ⟨h2, h⟩ := He.ba h
  obtain ⟨h3, h⟩ := He.ba h
  obtain ⟨h4, h5⟩ := He.ba h
  exact ⟨c, He.eqO_ok h1, He.eqO_ok h2, of_decide_eq_true h3, of_decide_eq_true h4, of_decide_eq_true h5⟩
end Bx

-- needs lists
namespace Bx
open PySem PySem.Spec PyProof.Rows L2
section
variable {κ : Type} [DecidableEq κ]
/-- the keys as they are met first -/
def fstep (acc : List κ) (k : κ) : List κ := if k ∈ acc then acc else acc ++ [k]
def firsts (ks : List κ) : List κ := ks.foldl fstep []
/-- the place of a key -/
def idxK (l : List κ) (k : κ) : Nat := l.idxOf k
/-- each key by the turn of its first place -/
def numb (ks : List κ) : List Nat := ks.map fun k => idxK (firsts ks) k
theorem firsts_take {ks : List κ} {i : Nat} {k : κ} (h : ks[i]? = some k) : firsts (ks.take (i + 1)) = fstep (firsts (ks.take i)) k := by
  unfold firsts
  rw [List.take_add_one, h, Option.toList_some, List.foldl_append]
  rfl
theorem numb_mem (x : κ) : ∀ (ks acc : List κ), x ∈ acc → x ∈ ks.foldl fstep acc
  | [], _, h => h
  | k :: ks, acc, h => by
    refine numb_mem x ks _ ?_
    unfold fstep
    split
    · exact h
    · exact List.mem_append_left _ h
theorem numb_has (x : κ) : ∀ (ks acc : List κ), x ∈ ks → x ∈ ks.foldl fstep acc
  | k :: ks, acc, h => by
    rcases List.mem_cons.mp h with e | e
    · refine numb_mem x ks _ ?_
      unfold fstep
      rw [← e]
      split
      · assumption
      · exact List.mem_append_right _ (List.mem_singleton.mpr rfl)
    · exact numb_has x ks _ e
theorem firsts_mem {ks : List κ} {k : κ} (h : k ∈ ks) : k ∈ firsts ks := numb_has k ks [] h
theorem numb_len (ks : List κ) : ∀ acc : List κ, (ks.foldl fstep acc).length ≤ acc.length + ks.length := by
  induction ks with
  | nil => exact fun acc => Nat.le_refl _
  | cons k ks ih =>
    intro acc
    have h := ih (fstep acc k)
    have h2 : (fstep acc k).length ≤ acc.length + 1 := by
      unfold fstep
      split
      · omega
      · rw [List.length_append]; exact Nat.le_refl _
    rw [List.foldl_cons, List.length_cons]
    omega
/-- what the dict tells behind some keys -/
structure Told (kvs : List (κ × V)) (acc : List κ) : Prop where
  len : kvs.length = acc.length
  val : ∀ k, valV kvs k = if k ∈ acc then some (.int ((idxK acc k : Nat) : Int)) else none
theorem Told.nil : Told ([] : List (κ × V)) [] := ⟨rfl, fun k => by rw [if_neg (List.not_mem_nil)]; rfl⟩
theorem Told.push {kvs : List (κ × V)} {acc : List κ} {k : κ} (h : Told kvs acc) (hk : k ∉ acc) : Told (putK kvs k (.int ((kvs.length : Nat) : Int))) (acc ++ [k]) := by
  have e : valV kvs k = none := by rw [h.val, if_neg hk]
  refine ⟨?_, fun j => ?_⟩
  · rw [putK_new _ e, List.length_append, List.length_append, h.len]
    rfl
  · rw [valV_put, h.val]
    unfold idxK
    by_cases c : j = k
    · subst c
      rw [if_pos rfl, if_pos (List.mem_append_right _ (List.mem_singleton.mpr rfl)), List.idxOf_append, if_neg hk, h.len]
      have : List.idxOf j [j] = 0 := by simp
      rw [this, Nat.zero_add]
    · rw [if_neg c]
      by_cases m : j ∈ acc
      · rw [if_pos m, if_pos (List.mem_append_left _ m), List.idxOf_append, if_pos m]
      · rw [if_neg m, if_neg (fun z => by rcases List.mem_append.mp z with z | z; exact m z; exact c (List.mem_singleton.mp z))]
end
end Bx

-- needs numb
/-! numbering by first places: it depends on the pattern alone; finer patterns have more first places -/
namespace Bx
open PySem PySem.Spec PyProof.Rows L2
section
variable {κ : Type} [DecidableEq κ] {ι : Type} [DecidableEq ι]
def isFirst (g : Nat → κ) (n : Nat) : Bool := (List.range n).all fun p => decide (g p ≠ g n)
def fpos (g : Nat → κ) (N : Nat) : List Nat := (List.range N).filter (isFirst g)
theorem isFirst_iff {g : Nat → κ} {n : Nat} : isFirst g n = true ↔ ∀ p, p < n → g p ≠ g n := by
  unfold isFirst
  rw [List.all_eq_true]
  exact ⟨fun h p hp => of_decide_eq_true (h p (List.mem_range.mpr hp)), fun h p hp => decide_eq_true (h p (List.mem_range.mp hp))⟩
/-- each place has a first place of its kind -/
theorem first_of (g : Nat → κ) : ∀ n, ∃ p, p ≤ n ∧ g p = g n ∧ isFirst g p = true := by
  intro n
  induction n using Nat.strongRecOn with
  | ind n ih =>
    by_cases h : isFirst g n = true
    · exact ⟨n, Nat.le_refl n, rfl, h⟩
    · have : ∃ p, p < n ∧ g p = g n := by
        apply Classical.byContradiction
        intro z
        exact h (isFirst_iff.mpr fun p hp e => z ⟨p, hp, e⟩)
      obtain ⟨p, hp, e⟩ := this
      obtain ⟨q, h1, h2, h3⟩ := ih p hp
      exact ⟨q, by omega, h2.trans e, h3⟩
theorem first_uniq {g : Nat → κ} {p q : Nat} (hp : isFirst g p = true) (hq : isFirst g q = true) (e : g p = g q) : p = q := by
  rcases Nat.lt_trichotomy p q with h | h | h
  · exact absurd e (isFirst_iff.mp hq p h)
  · exact h
  · exact absurd e.symm (isFirst_iff.mp hp q h)
theorem firsts_snoc (ks : List κ) (k : κ) : firsts (ks ++ [k]) = fstep (firsts ks) k := by
  unfold firsts
  rw [List.foldl_append]
  rfl
theorem firsts_fpos (g : Nat → κ) : ∀ N, firsts ((List.range N).map g) = (fpos g N).map g
  | 0 => rfl
  | N + 1 => by
    have ih := firsts_fpos g N
    rw [List.range_succ, List.map_append, List.map_cons, List.map_nil, firsts_snoc, ih]
    unfold fpos
    rw [List.range_succ, List.filter_append]
    unfold fstep
    by_cases h : isFirst g N = true
    · rw [if_neg, List.filter_cons_of_pos h, List.map_append]
      · rfl
      · intro z
        obtain ⟨p, hp, e⟩ := List.mem_map.mp z
        have hp := (List.mem_filter.mp hp).1
        exact isFirst_iff.mp h p (List.mem_range.mp hp) e
    · rw [if_pos, List.filter_cons_of_neg h]
      · rw [List.filter_nil, List.append_nil]
      · obtain ⟨p, h1, h2, h3⟩ := first_of g N
        have hne : p ≠ N := fun z => h (z ▸ h3)
        exact List.mem_map.mpr ⟨p, List.mem_filter.mpr ⟨List.mem_range.mpr (by omega), h3⟩, h2⟩
/-- the number of a place -/
def pat (g : Nat → κ) (N i : Nat) : Nat := idxK ((fpos g N).map g) (g i)
theorem numb_pat (g : Nat → κ) (N : Nat) : numb ((List.range N).map g) = (List.range N).map (pat g N) := by
  unfold numb
  rw [List.map_map, firsts_fpos]
  rfl
theorem isFirst_congr {g : Nat → κ} {g' : Nat → ι} {N : Nat} (h : ∀ i j, i < N → j < N → (g i = g j ↔ g' i = g' j)) {n : Nat} (hn : n < N) : isFirst g n = isFirst g' n := by
  rw [Bool.eq_iff_iff, isFirst_iff, isFirst_iff]
  exact ⟨fun z p hp e => z p hp ((h p n (by omega) hn).mpr e), fun z p hp e => z p hp ((h p n (by omega) hn).mp e)⟩
theorem fpos_congr {g : Nat → κ} {g' : Nat → ι} {N : Nat} (h : ∀ i j, i < N → j < N → (g i = g j ↔ g' i = g' j)) : fpos g N = fpos g' N := by
  unfold fpos
  exact List.filter_congr fun n hn => isFirst_congr h (List.mem_range.mp hn)
theorem idx_congr {g : Nat → κ} {g' : Nat → ι} {i : Nat} : ∀ (l : List Nat), (∀ p ∈ l, (g p = g i ↔ g' p = g' i)) → idxK (l.map g) (g i) = idxK (l.map g') (g' i)
  | [], _ => rfl
  | p :: l, h => by
    have ih := idx_congr l fun q hq => h q (List.mem_cons_of_mem _ hq)
    unfold idxK at ih ⊢
    rw [List.map_cons, List.map_cons, List.idxOf_cons, List.idxOf_cons, ih]
    have hp := h p List.mem_cons_self
    by_cases c : g p = g i
    · rw [beq_iff_eq.mpr c, beq_iff_eq.mpr (hp.mp c)]
    · rw [beq_eq_false_iff_ne.mpr c, beq_eq_false_iff_ne.mpr fun z => c (hp.mpr z)]
theorem pat_congr {g : Nat → κ} {g' : Nat → ι} {N i : Nat} (h : ∀ i j, i < N → j < N → (g i = g j ↔ g' i = g' j)) (hi : i < N) : pat g N i = pat g' N i := by
  unfold pat
  rw [← fpos_congr h]
  exact idx_congr _ fun p hp => h p i (List.mem_range.mp (List.mem_filter.mp hp).1) hi
theorem pat_mem {g : Nat → κ} {N i : Nat} (hi : i < N) : g i ∈ (fpos g N).map g := by
  obtain ⟨p, h1, h2, h3⟩ := first_of g i
  exact List.mem_map.mpr ⟨p, List.mem_filter.mpr ⟨List.mem_range.mpr (by omega), h3⟩, h2⟩
theorem pat_lt {g : Nat → κ} {N i : Nat} (hi : i < N) : pat g N i < (fpos g N).length := by
  unfold pat idxK
  have := List.idxOf_lt_length_of_mem (pat_mem (g := g) hi)
  rw [List.length_map] at this
  exact this
theorem pat_eq_iff {g : Nat → κ} {N i j : Nat} (hi : i < N) (hj : j < N) : pat g N i = pat g N j ↔ g i = g j := by
  refine ⟨fun e => ?_, fun e => by unfold pat; rw [e]⟩
  have h1 := List.idxOf_lt_length_of_mem (pat_mem (g := g) hi)
  have h2 := List.idxOf_lt_length_of_mem (pat_mem (g := g) hj)
  have e1 := List.getElem_idxOf h1
  have e2 := List.getElem_idxOf h2
  unfold pat idxK at e
  rw [← e1, ← e2]
  congr 1
theorem pat_pat {g : Nat → κ} {N i : Nat} (hi : i < N) : pat (pat g N) N i = pat g N i := pat_congr (fun _ _ h1 h2 => pat_eq_iff h1 h2) hi
theorem fpos_le (g : Nat → κ) (N : Nat) : (fpos g N).length ≤ N := by
  unfold fpos
  have := List.length_filter_le (isFirst g) (List.range N)
  rw [List.length_range] at this
  exact this
theorem filter_sub {p q : Nat → Bool} : ∀ (l : List Nat), (∀ x ∈ l, p x = true → q x = true) → (l.filter p).length ≤ (l.filter q).length ∧ ((l.filter p).length = (l.filter q).length → ∀ x ∈ l, q x = true → p x = true)
  | [], _ => ⟨Nat.le_refl _, fun _ x hx => by cases hx⟩
  | a :: l, h => by
    have ih := filter_sub l fun x hx => h x (List.mem_cons_of_mem _ hx)
    by_cases hp : p a = true
    · have hq := h a List.mem_cons_self hp
      rw [List.filter_cons_of_pos hp, List.filter_cons_of_pos hq, List.length_cons, List.length_cons]
      refine ⟨Nat.succ_le_succ ih.1, fun e x hx hqx => ?_⟩
      rcases List.mem_cons.mp hx with z | z
      · rw [z]; exact hp
      · exact ih.2 (by omega) x z hqx
    · rw [List.filter_cons_of_neg hp]
      by_cases hq : q a = true
      · rw [List.filter_cons_of_pos hq, List.length_cons]
        exact ⟨by omega, fun e => by omega⟩
      · rw [List.filter_cons_of_neg hq]
        refine ⟨ih.1, fun e x hx hqx => ?_⟩
        rcases List.mem_cons.mp hx with z | z
        · rw [z] at hqx; exact absurd hqx hq
        · exact ih.2 e x z hqx
/-- a finer pattern has more first places, or it is the same -/
theorem finer_more {f : Nat → ι} {F : Nat → κ} {N : Nat} (h : ∀ i j, i < N → j < N → F i = F j → f i = f j) :
    (fpos f N).length ≤ (fpos F N).length ∧ ((fpos f N).length = (fpos F N).length → ∀ i j, i < N → j < N → f i = f j → F i = F j) := by
  have hs : ∀ x ∈ List.range N, isFirst f x = true → isFirst F x = true := fun x hx hf => isFirst_iff.mpr fun p hp e => isFirst_iff.mp hf p hp (h p x (by have := List.mem_range.mp hx; omega) (List.mem_range.mp hx) e)
  have fs := filter_sub (List.range N) hs
  refine ⟨fs.1, fun e i j hi hj hf => ?_⟩
  have back := fs.2 e
  obtain ⟨p, p1, p2, p3⟩ := first_of F i
  obtain ⟨q, q1, q2, q3⟩ := first_of F j
  have hp : isFirst f p = true := back p (List.mem_range.mpr (by omega)) p3
  have hq : isFirst f q = true := back q (List.mem_range.mpr (by omega)) q3
  have ep : f p = f i := h p i (by omega) hi p2
  have eq' : f q = f j := h q j (by omega) hj q2
  have epq : p = q := first_uniq hp hq (by rw [ep, eq', hf])
  rw [← p2, ← q2, epq]
/-- a turn of classes_of: the same, or more classes -/
theorem turn_more {f : Nat → Nat} {F : Nat → κ} {N : Nat} (h : ∀ i j, i < N → j < N → F i = F j → f i = f j) (hf : ∀ i, i < N → pat f N i = f i) (ne : ¬ ∀ i, i < N → pat F N i = f i) :
    (fpos f N).length < (fpos (pat F N) N).length := by
  have m := finer_more h
  have e : fpos (pat F N) N = fpos F N := fpos_congr fun i j hi hj => pat_eq_iff hi hj
  rw [e]
  rcases Nat.lt_or_eq_of_le m.1 with z | z
  · exact z
  · exfalso
    refine ne fun i hi => ?_
    rw [← hf i hi]
    exact pat_congr (fun a b ha hb => ⟨h a b ha hb, m.2 z a b ha hb⟩) hi
end
end Bx

-- needs tables classes
/-! spots that tell the same words apart: the classes of a table -/
namespace Bx
open PySem PySem.Spec PyProof.Rows L2
/-- the spot behind a word -/
def goW (t : Tb) (w : List Bool) (s : Nat) : Nat := w.foldl (fun s b => goT t s b) s
def lang (t : Tb) (i j : Nat) : Prop := ∀ w : List Bool, goodT t (goW t w i) = goodT t (goW t w j)
theorem lang_refl (t : Tb) (i : Nat) : lang t i i := fun _ => rfl
theorem lang_symm {t : Tb} {i j : Nat} (h : lang t i j) : lang t j i := fun w => (h w).symm
theorem lang_trans {t : Tb} {i j k : Nat} (h : lang t i j) (h2 : lang t j k) : lang t i k := fun w => (h w).trans (h2 w)
theorem lang_good {t : Tb} {i j : Nat} (h : lang t i j) : goodT t i = goodT t j := h []
theorem lang_go {t : Tb} {i j : Nat} (h : lang t i j) (b : Bool) : lang t (goT t i b) (goT t j b) := fun w => h (b :: w)
/-- the classes: same class exactly if the same words, numbered as they are met -/
structure Cls (t : Tb) (f : Nat → Nat) : Prop where
  eq : ∀ i j, i < t.rows.length → j < t.rows.length → (f i = f j ↔ lang t i j)
  pt : ∀ i, i < t.rows.length → pat f t.rows.length i = f i
theorem Cls.lt {t : Tb} {f : Nat → Nat} (h : Cls t f) {i : Nat} (hi : i < t.rows.length) : f i < t.rows.length := by
  have h1 := pat_lt (g := f) hi
  have h2 := fpos_le f t.rows.length
  rw [h.pt i hi] at h1
  omega
theorem Cls.good {t : Tb} {f : Nat → Nat} (h : Cls t f) {i j : Nat} (hi : i < t.rows.length) (hj : j < t.rows.length) (e : f i = f j) : goodT t i = goodT t j := lang_good ((h.eq i j hi hj).mp e)
theorem Cls.go {t : Tb} {f : Nat → Nat} (h : Cls t f) (ok : Tok t) {i j : Nat} (hi : i < t.rows.length) (hj : j < t.rows.length) (e : f i = f j) (b : Bool) : f (goT t i b) = f (goT t j b) :=
  (h.eq _ _ (goT_lt ok hi b) (goT_lt ok hj b)).mpr (lang_go ((h.eq i j hi hj).mp e) b)
/-- the key of a row for a finer partition -/
def keyF (t : Tb) (f : Nat → Nat) (i : Nat) : List Key := [.inl ((f i : Nat) : Int), .inl ((f (goT t i true) : Nat) : Int), .inl ((f (goT t i false) : Nat) : Int)]
theorem keyF_iff {t : Tb} {f : Nat → Nat} {i j : Nat} : keyF t f i = keyF t f j ↔ f i = f j ∧ f (goT t i true) = f (goT t j true) ∧ f (goT t i false) = f (goT t j false) := by
  unfold keyF
  constructor
  · intro h
    have h1 := List.cons.inj h
    have h2 := List.cons.inj h1.2
    have h3 := List.cons.inj h2.2
    have a1 := Int.ofNat.inj (Sum.inl.inj h1.1)
    have a2 := Int.ofNat.inj (Sum.inl.inj h2.1)
    have a3 := Int.ofNat.inj (Sum.inl.inj h3.1)
    exact ⟨a1, a2, a3⟩
  · rintro ⟨h1, h2, h3⟩
    rw [h1, h2, h3]
/-- what stands at each turn of classes_of -/
structure Part (t : Tb) (f : Nat → Nat) : Prop where
  lg : ∀ i j, i < t.rows.length → j < t.rows.length → lang t i j → f i = f j
  gd : ∀ i j, i < t.rows.length → j < t.rows.length → f i = f j → goodT t i = goodT t j
  pt : ∀ i, i < t.rows.length → pat f t.rows.length i = f i
theorem Part.start (t : Tb) : Part t (pat (goodT t) t.rows.length) where
  lg := fun i j hi hj h => (pat_eq_iff hi hj).mpr (lang_good h)
  gd := fun i j hi hj h => (pat_eq_iff hi hj).mp h
  pt := fun i hi => pat_pat hi
theorem Part.next {t : Tb} {f : Nat → Nat} (ok : Tok t) (h : Part t f) : Part t (pat (keyF t f) t.rows.length) where
  lg := fun i j hi hj l => (pat_eq_iff hi hj).mpr (keyF_iff.mpr ⟨h.lg i j hi hj l, h.lg _ _ (goT_lt ok hi _) (goT_lt ok hj _) (lang_go l _), h.lg _ _ (goT_lt ok hi _) (goT_lt ok hj _) (lang_go l _)⟩)
  gd := fun i j hi hj e => h.gd i j hi hj (keyF_iff.mp ((pat_eq_iff hi hj).mp e)).1
  pt := fun i hi => pat_pat hi
theorem Part.more {t : Tb} {f : Nat → Nat} (h : Part t f) (ne : ¬ ∀ i, i < t.rows.length → pat (keyF t f) t.rows.length i = f i) :
    (fpos f t.rows.length).length < (fpos (pat (keyF t f) t.rows.length) t.rows.length).length :=
  turn_more (fun _ _ _ _ e => (keyF_iff.mp e).1) h.pt ne
theorem Part.done {t : Tb} {f : Nat → Nat} (ok : Tok t) (h : Part t f) (e : ∀ i, i < t.rows.length → pat (keyF t f) t.rows.length i = f i) : Cls t f := by
  refine ⟨fun i j hi hj => ⟨fun c w => ?_, h.lg i j hi hj⟩, h.pt⟩
  have st : ∀ i j, i < t.rows.length → j < t.rows.length → f i = f j → ∀ b, f (goT t i b) = f (goT t j b) := fun i j hi hj c b => by
    have c2 : pat (keyF t f) t.rows.length i = pat (keyF t f) t.rows.length j := by rw [e i hi, e j hj, c]
    have c3 := keyF_iff.mp ((pat_eq_iff hi hj).mp c2)
    cases b
    · exact c3.2.2
    · exact c3.2.1
  revert i j
  induction w with
  | nil => exact fun i j hi hj c => h.gd i j hi hj c
  | cons b w ih => exact fun i j hi hj c => ih (goT t i b) (goT t j b) (goT_lt ok hi b) (goT_lt ok hj b) (st i j hi hj c b)
end Bx

-- needs lang numb
/-! the least table -/
namespace Bx
open PySem PySem.Spec PyProof.Rows L2
/-- the first spot of a class -/
def spF (f : Nat → Nat) (N c : Nat) : Nat := ((List.range N).find? fun p => decide (f p = c)).getD 0
theorem spF_of {f : Nat → Nat} {N i : Nat} (hi : i < N) : spF f N (f i) < N ∧ f (spF f N (f i)) = f i := by
  unfold spF
  cases h : (List.range N).find? fun p => decide (f p = f i) with
  | none =>
    have := List.find?_eq_none.mp h i (List.mem_range.mpr hi)
    exact absurd (decide_eq_true rfl) this
  | some p =>
    have h1 := List.find?_some h
    have h2 := List.mem_of_find?_eq_some h
    exact ⟨List.mem_range.mp h2, of_decide_eq_true h1⟩
/-- one turn of the walk over the classes -/
def ordS (t : Tb) (f : Nat → Nat) (o : List Nat) (k : Nat) : List Nat := match o[k]? with
  | some c => fstep (fstep o (f (goT t (spF f t.rows.length c) true))) (f (goT t (spF f t.rows.length c) false))
  | none => o
def ordK (t : Tb) (f : Nat → Nat) (o : List Nat) : Nat → List Nat
  | 0 => o
  | k + 1 => ordS t f (ordK t f o k) k
/-- f is a periodic list's period -/
def perd {α : Type} (l : List α) (s : Nat) : Prop := ∀ i, i < l.length → l[i]? = l[i % s]?
structure Fits (t : Tb) (f : Nat → Nat) (s : Nat) : Prop where
  dv : s ∣ t.m
  fl : perd t.flats s
  sl : perd t.steeps s
  bl : perd (t.starts.map f) s
def mods : List Nat := [1, 2, 3, 6]
structure Sz (t : Tb) (f : Nat → Nat) (s : Nat) : Prop where
  md : s ∈ mods
  ft : Fits t f s
  ls : ∀ s' ∈ mods, s' < s → ¬ Fits t f s'
def begF (t : Tb) (f : Nat → Nat) (s : Nat) : List Nat := (t.starts.map f).take s
def ordF (t : Tb) (f : Nat → Nat) (s : Nat) : List Nat := ordK t f (firsts (begF t f s)) t.rows.length
def rowF (t : Tb) (f : Nat → Nat) (o : List Nat) (c : Nat) : Nat × Nat × Bool :=
  (idxK o (f (goT t (spF f t.rows.length c) true)), idxK o (f (goT t (spF f t.rows.length c) false)), goodT t (spF f t.rows.length c))
def leastF (t : Tb) (f : Nat → Nat) (s : Nat) : Tb :=
  ⟨s, t.flats.take s, t.steeps.take s, (begF t f s).map (idxK (ordF t f s)), (ordF t f s).map (rowF t f (ordF t f s))⟩
/-! the walk's lists: without doubles, below the number of spots, closed -/
theorem fstep_mem {κ : Type} [DecidableEq κ] {acc : List κ} {k x : κ} : x ∈ fstep acc k ↔ x ∈ acc ∨ x = k := by
  unfold fstep
  split
  · exact ⟨.inl, fun h => h.elim id fun e => e ▸ by assumption⟩
  · rw [List.mem_append, List.mem_singleton]
theorem fstep_nodup {κ : Type} [DecidableEq κ] {acc : List κ} {k : κ} (h : acc.Nodup) : (fstep acc k).Nodup := by
  unfold fstep
  split
  · exact h
  · rename_i hk
    rw [List.nodup_append]
    exact ⟨h, List.nodup_cons.mpr ⟨List.not_mem_nil, List.nodup_nil⟩, fun a ha b hb e => hk (by rw [← List.mem_singleton.mp hb, ← e]; exact ha)⟩
theorem fstep_pre {κ : Type} [DecidableEq κ] (acc : List κ) (k : κ) : acc <+: fstep acc k := by
  unfold fstep
  split
  · exact List.prefix_refl _
  · exact List.prefix_append _ _
theorem firsts_nodup {κ : Type} [DecidableEq κ] : ∀ (ks acc : List κ), acc.Nodup → (ks.foldl fstep acc).Nodup
  | [], _, h => h
  | k :: ks, _, h => firsts_nodup ks _ (fstep_nodup h)
theorem firsts_sub {κ : Type} [DecidableEq κ] {x : κ} : ∀ (ks acc : List κ), x ∈ ks.foldl fstep acc → x ∈ acc ∨ x ∈ ks
  | [], _, h => .inl h
  | k :: ks, acc, h => by
    rcases firsts_sub ks _ h with e | e
    · rcases fstep_mem.mp e with e | e
      · exact .inl e
      · exact .inr (by rw [e]; exact List.mem_cons_self)
    · exact .inr (List.mem_cons_of_mem _ e)
theorem nodup_len : ∀ (N : Nat) (l : List Nat), l.Nodup → (∀ x ∈ l, x < N) → l.length ≤ N
  | 0, l, _, h => by
    cases l with
    | nil => exact Nat.le_refl _
    | cons x l => exact absurd (h x List.mem_cons_self) (Nat.not_lt_zero _)
  | N + 1, l, hn, h => by
    by_cases hm : N ∈ l
    · have h1 := nodup_len N (l.erase N) (hn.erase N) fun x hx => by
        have hx2 := (hn.mem_erase_iff).mp hx
        have := h x hx2.2
        have := hx2.1
        omega
      rw [List.length_erase_of_mem hm] at h1
      omega
    · have h1 := nodup_len N l hn fun x hx => by
        have := h x hx
        have : x ≠ N := fun e => hm (e ▸ hx)
        omega
      omega
structure Ordl (t : Tb) (f : Nat → Nat) (o : List Nat) : Prop where
  nd : o.Nodup
  im : ∀ c ∈ o, ∃ i, i < t.rows.length ∧ f i = c
theorem Ordl.step {t : Tb} {f : Nat → Nat} {o : List Nat} (h : Ordl t f o) {i : Nat} (hi : i < t.rows.length) : Ordl t f (fstep o (f i)) :=
  ⟨fstep_nodup h.nd, fun c hc => (fstep_mem.mp hc).elim (h.im c) fun e => ⟨i, hi, e.symm⟩⟩
theorem Ordl.len {t : Tb} {f : Nat → Nat} {o : List Nat} (h : Ordl t f o) (hf : Cls t f) : o.length ≤ t.rows.length :=
  nodup_len _ _ h.nd fun x hx => by
    obtain ⟨i, hi, e⟩ := h.im x hx
    rw [← e]
    exact hf.lt hi
theorem Ordl.sp {t : Tb} {f : Nat → Nat} {o : List Nat} (h : Ordl t f o) {c : Nat} (hc : c ∈ o) : spF f t.rows.length c < t.rows.length ∧ f (spF f t.rows.length c) = c := by
  obtain ⟨i, hi, e⟩ := h.im c hc
  have := spF_of (f := f) hi
  rw [e] at this
  exact this
theorem Ordl.ordS {t : Tb} {f : Nat → Nat} {o : List Nat} (h : Ordl t f o) (ok : Tok t) (k : Nat) : Ordl t f (ordS t f o k) := by
  unfold Bx.ordS
  cases e : o[k]? with
  | none => exact h
  | some c =>
    have hs := (h.sp (List.mem_of_getElem? e)).1
    exact (h.step (goT_lt ok hs true)).step (goT_lt ok hs false)
theorem Ordl.ordK {t : Tb} {f : Nat → Nat} {o : List Nat} (h : Ordl t f o) (ok : Tok t) : ∀ k, Ordl t f (ordK t f o k)
  | 0 => h
  | k + 1 => (h.ordK ok k).ordS ok k
theorem ordS_pre (t : Tb) (f : Nat → Nat) (o : List Nat) (k : Nat) : o <+: ordS t f o k := by
  unfold ordS
  split
  · exact (fstep_pre _ _).trans (fstep_pre _ _)
  · exact List.prefix_refl _
theorem ordK_pre (t : Tb) (f : Nat → Nat) (o : List Nat) (k : Nat) : ∀ j, ordK t f o k <+: ordK t f o (k + j)
  | 0 => List.prefix_refl _
  | j + 1 => (ordK_pre t f o k j).trans (ordS_pre _ _ _ _)
theorem ordK_stop {t : Tb} {f : Nat → Nat} {o : List Nat} {k : Nat} (h : (ordK t f o k).length ≤ k) : ∀ j, ordK t f o (k + j) = ordK t f o k
  | 0 => rfl
  | j + 1 => by
    have ih := ordK_stop h j
    show ordS t f (ordK t f o (k + j)) (k + j) = _
    rw [ih]
    unfold ordS
    rw [List.getElem?_eq_none (by omega)]
theorem ordK_end {t : Tb} {f : Nat → Nat} {o : List Nat} (h : Ordl t f o) (ok : Tok t) (hf : Cls t f) {k : Nat} (hk : (ordK t f o k).length ≤ k) : ordK t f o k = ordK t f o t.rows.length := by
  by_cases hN : k ≤ t.rows.length
  · obtain ⟨j, hj⟩ : ∃ j, t.rows.length = k + j := ⟨t.rows.length - k, by omega⟩
    rw [hj, ordK_stop hk j]
  · have hl := (h.ordK ok t.rows.length).len hf
    have e := ordK_stop hl (k - t.rows.length)
    rw [show t.rows.length + (k - t.rows.length) = k by omega] at e
    exact e
/-- closed: the followers of each class are there -/
theorem ordK_closed {t : Tb} {f : Nat → Nat} {o : List Nat} (h : Ordl t f o) (ok : Tok t) (hf : Cls t f) {c : Nat} (hc : c ∈ ordK t f o t.rows.length) (b : Bool) : f (goT t (spF f t.rows.length c) b) ∈ ordK t f o t.rows.length := by
  obtain ⟨k, hk⟩ := List.getElem?_of_mem hc
  have hkl := (List.getElem?_eq_some_iff.mp hk).1
  have hl := (h.ordK ok t.rows.length).len hf
  have hkN : k < t.rows.length := by omega
  obtain ⟨j, hj⟩ : ∃ j, t.rows.length = k + 1 + j := ⟨t.rows.length - (k + 1), by omega⟩
  have hlt : k < (ordK t f o k).length := by
    by_cases z : k < (ordK t f o k).length
    · exact z
    · exfalso
      have e := ordK_end h ok hf (k := k) (by omega)
      rw [← e] at hkl
      omega
  have e1 : (ordK t f o k)[k]? = some c := by
    have p := ordK_pre t f o k (1 + j)
    rw [show k + (1 + j) = t.rows.length by omega] at p
    obtain ⟨r, hr⟩ := p
    rw [← hr, List.getElem?_append_left hlt] at hk
    exact hk
  have e2 : f (goT t (spF f t.rows.length c) b) ∈ ordK t f o (k + 1) := by
    show _ ∈ ordS t f (ordK t f o k) k
    unfold ordS
    rw [e1]
    cases b
    · exact fstep_mem.mpr (.inr rfl)
    · exact fstep_mem.mpr (.inl (fstep_mem.mpr (.inr rfl)))
  have p := ordK_pre t f o (k + 1) j
  rw [← hj] at p
  exact p.subset e2
theorem ordl_firsts {t : Tb} {f : Nat → Nat} {s : Nat} (ok : Tok t) : Ordl t f (firsts (begF t f s)) := by
  refine ⟨firsts_nodup _ _ List.nodup_nil, fun c hc => ?_⟩
  rcases firsts_sub _ _ hc with e | e
  · exact absurd e List.not_mem_nil
  · obtain ⟨i, hi, e2⟩ := List.mem_map.mp (List.mem_of_mem_take e)
    exact ⟨i, ok.st i hi, e2⟩
section
variable {t : Tb} {f : Nat → Nat} {s : Nat}
theorem ordF_l (ok : Tok t) : Ordl t f (ordF t f s) := (ordl_firsts ok).ordK ok _
theorem ordF_beg {c : Nat} (h : c ∈ begF t f s) : c ∈ ordF t f s := by
  have p := ordK_pre t f (firsts (begF t f s)) 0 t.rows.length
  rw [Nat.zero_add] at p
  exact p.subset (firsts_mem h)
theorem idx_lt {l : List Nat} {c : Nat} (h : c ∈ l) : idxK l c < l.length := List.idxOf_lt_length_of_mem h
theorem idx_get {l : List Nat} {c : Nat} (h : c ∈ l) : l[idxK l c]? = some c := by
  have h1 := List.idxOf_lt_length_of_mem h
  unfold idxK
  rw [List.getElem?_eq_getElem h1, List.getElem_idxOf h1]
theorem leastF_go (ok : Tok t) (hf : Cls t f) {i : Nat} (hi : i < t.rows.length) (hm : f i ∈ ordF t f s) (b : Bool) :
    goT (leastF t f s) (idxK (ordF t f s) (f i)) b = idxK (ordF t f s) (f (goT t i b)) ∧ f (goT t i b) ∈ ordF t f s := by
  have hs := (ordF_l (s := s) ok).sp hm
  have e := fun b => hf.go ok hs.1 hi hs.2 b
  refine ⟨?_, ?_⟩
  · unfold goT leastF
    dsimp only
    rw [List.getElem?_map, idx_get hm]
    show (if b then (rowF t f (ordF t f s) (f i)).1 else (rowF t f (ordF t f s) (f i)).2.1) = _
    cases b
    · show idxK _ _ = _
      rw [e false]
      rfl
    · show idxK _ _ = _
      rw [e true]
      rfl
  · rw [← e b]
    exact ordK_closed (ordl_firsts ok) ok hf hm b
theorem leastF_good (ok : Tok t) (hf : Cls t f) {i : Nat} (hi : i < t.rows.length) (hm : f i ∈ ordF t f s) :
    goodT (leastF t f s) (idxK (ordF t f s) (f i)) = goodT t i := by
  have hs := (ordF_l (s := s) ok).sp hm
  have e := hf.good hs.1 hi hs.2
  rw [← e]
  show (match (leastF t f s).rows[idxK (ordF t f s) (f i)]? with | some r => r.2.2 | none => false) = _
  unfold leastF
  dsimp only
  rw [List.getElem?_map, idx_get hm]
  rfl
theorem perd_take {α : Type} {l : List α} {m s g : Nat} (hl : l.length = m) (hs : 0 < s) (hd : s ∣ m) (hm : 0 < m) (h : perd l s) : (l.take s)[g % s]? = l[g % m]? := by
  rw [h (g % m) (by rw [hl]; exact Nat.mod_lt _ hm), Nat.mod_mod_of_dvd _ hd, List.getElem?_take, if_pos (Nat.mod_lt _ hs)]
theorem mods_pos (h : s ∈ mods) : 0 < s ∧ (s = 1 ∨ s = 2 ∨ s = 3 ∨ s = 6) := by
  unfold mods at h
  simp only [List.mem_cons, List.not_mem_nil, or_false] at h
  omega
theorem Sz.le (ok : Tok t) (hs : Sz t f s) : s ≤ t.m := Nat.le_of_dvd ok.m0.1 hs.ft.dv
theorem leastF_ok (ok : Tok t) (hf : Cls t f) (hs : Sz t f s) : Tok (leastF t f s) := by
  have sp := mods_pos hs.md
  have sle := hs.le ok
  have lb : (begF t f s).length = s := by
    unfold begF
    rw [List.length_take, List.length_map, ok.tl]
    omega
  have ol := ordF_l (f := f) (s := s) ok
  have oln := ol.len hf
  have r1 := ok.r1
  have lr : (leastF t f s).rows.length = (ordF t f s).length := by
    show ((ordF t f s).map _).length = _
    rw [List.length_map]
  refine ⟨sp.2, ?_, ?_, ?_, ?_, ?_, ?_, ?_, ?_⟩
  · show (t.flats.take s).length = s
    rw [List.length_take, ok.fl]
    omega
  · show (t.steeps.take s).length = s
    rw [List.length_take, ok.sl]
    omega
  · show ((begF t f s).map _).length = s
    rw [List.length_map, lb]
  · rw [lr]
    have h0 : 0 < (begF t f s).length := by omega
    exact List.length_pos_of_mem (ordF_beg (List.getElem_mem h0))
  · rw [lr]
    omega
  · intro x hx
    obtain ⟨c, hc, rfl⟩ := List.mem_map.mp hx
    rw [lr]
    exact idx_lt (ordF_beg hc)
  · intro r hr
    obtain ⟨c, hc, rfl⟩ := List.mem_map.mp hr
    rw [lr]
    exact idx_lt (ordK_closed (ordl_firsts ok) ok hf hc true)
  · intro r hr
    obtain ⟨c, hc, rfl⟩ := List.mem_map.mp hr
    rw [lr]
    exact idx_lt (ordK_closed (ordl_firsts ok) ok hf hc false)
theorem leastF_goN (ok : Tok t) (hf : Cls t f) (b : Bool) : ∀ (n i : Nat), i < t.rows.length → f i ∈ ordF t f s →
    goN (leastF t f s) b n (idxK (ordF t f s) (f i)) = idxK (ordF t f s) (f (goN t b n i)) ∧ f (goN t b n i) ∈ ordF t f s ∧ goN t b n i < t.rows.length
  | 0, i, hi, hm => ⟨rfl, hm, hi⟩
  | n + 1, i, hi, hm => by
    have h1 := leastF_go ok hf hi hm b
    have h2 := leastF_goN ok hf b n (goT t i b) (goT_lt ok hi b) h1.2
    show goN _ b n (goT _ _ b) = _ ∧ _
    rw [h1.1]
    exact h2
theorem leastF_fold (ok : Tok t) (hf : Cls t f) : ∀ (l : List (Bool × Nat)) (i : Nat), i < t.rows.length → f i ∈ ordF t f s →
    goodT (leastF t f s) (l.foldl (fun q r => goN (leastF t f s) r.1 r.2 q) (idxK (ordF t f s) (f i))) = goodT t (l.foldl (fun q r => goN t r.1 r.2 q) i)
  | [], i, hi, hm => leastF_good ok hf hi hm
  | r :: l, i, hi, hm => by
    have h1 := leastF_goN (s := s) ok hf r.1 r.2 i hi hm
    rw [List.foldl_cons, List.foldl_cons, h1.1]
    exact leastF_fold ok hf l _ h1.2.2 h1.2.1
theorem leastF_beg (ok : Tok t) (hs : Sz t f s) (g : Nat) : begT (leastF t f s) g = idxK (ordF t f s) (f (begT t g)) ∧ f (begT t g) ∈ ordF t f s ∧ begT t g < t.rows.length := by
  have sp := mods_pos hs.md
  have m0 := ok.m0.1
  have hg : g % t.m < t.starts.length := by rw [ok.tl]; exact Nat.mod_lt _ m0
  have e1 : t.starts[g % t.m]? = some (begT t g) := by
    unfold begT
    rw [List.getElem?_eq_getElem hg]
    rfl
  have e2 : (begF t f s)[g % s]? = some (f (begT t g)) := by
    unfold begF
    rw [perd_take (by rw [List.length_map, ok.tl]) sp.1 hs.ft.dv m0 hs.ft.bl, List.getElem?_map, e1]
    rfl
  refine ⟨?_, ordF_beg (List.mem_of_getElem? e2), ok.st _ (List.mem_of_getElem? e1)⟩
  show (((begF t f s).map (idxK (ordF t f s)))[g % s]?).getD 0 = _
  rw [List.getElem?_map, e2]
  rfl
/-- the least table tells the same set -/
theorem leastF_has (ok : Tok t) (hf : Cls t f) (hs : Sz t f s) (x y : Nat) : hasT (leastF t f s) x y = hasT t x y := by
  have sp := mods_pos hs.md
  have m0 := ok.m0.1
  unfold hasT
  by_cases hy : y = 0
  · rw [if_pos hy, if_pos hy]
    show ((t.flats.take s)[Nat.gcd x y % s]?).getD false = _
    rw [perd_take ok.fl sp.1 hs.ft.dv m0 hs.ft.fl]
  · rw [if_neg hy, if_neg hy]
    by_cases hx : x = 0
    · rw [if_pos hx, if_pos hx]
      show ((t.steeps.take s)[Nat.gcd x y % s]?).getD false = _
      rw [perd_take ok.sl sp.1 hs.ft.dv m0 hs.ft.sl]
    · rw [if_neg hx, if_neg hx]
      have h := leastF_beg ok hs (Nat.gcd x y)
      rw [h.1]
      exact leastF_fold ok hf _ _ h.2.2 h.2.1
end
end Bx

-- needs deep
/-! data stays where instances alone change -/
namespace Bx
open PySem PySem.Spec PyProof.Rows L2
def SameI (H H' : Hp) : Prop := ∀ a o, H a = some o → (∀ C dx fs, o ≠ .ins C dx fs) → H' a = some o
theorem SameI.put {H : Hp} {a C dx : Addr} {fs : List (Str × V)} {o : HO} (h : H a = some (.ins C dx fs)) : SameI H (L2.upd H a o) := fun b u q n => by
  have nb : b ≠ a := fun z => by
    rw [z, h] at q
    exact n _ _ _ (Option.some.inj q).symm
  rw [upd_ne nb]
  exact q
theorem SameI.seqT {K : PySem.W.Frag} {H H' : Hp} {a : Addr} {xs : List V} (e : SameI H H') (h : SqT K H a xs) : SqT K H' a xs := by
  rcases h with (h | ⟨o, h⟩) | h
  · exact .inl (.inl (e _ _ h fun _ _ _ z => by cases z))
  · exact .inl (.inr ⟨o, e _ _ h fun _ _ _ z => by cases z⟩)
  · exact .inr h
theorem SameI.seqL {K : PySem.W.Frag} {H H' : Hp} {a : Addr} {xs : List V} (e : SameI H H') (h : SqL K H a xs) : SqL K H' a xs := by
  rcases h with (h | ⟨o, h⟩) | h
  · exact .inl (.inl (e _ _ h fun _ _ _ z => by cases z))
  · exact .inl (.inr ⟨o, e _ _ h fun _ _ _ z => by cases z⟩)
  · exact .inr h
mutual
theorem Dp.sameI {K : PySem.W.Frag} {H H' : Hp} (e : SameI H H') : ∀ {d : PyData} {v : V}, Dp K H v d → Dp K H' v d
  | .none, _, h => by cases h; exact .non
  | .bool _, _, h => by cases h; exact .bl _
  | .int _, _, h => by cases h; exact .int _
  | .str _, _, h => by cases h; exact .str _
  | .list _, _, h => by
    cases h with
    | lst hs ha => exact .lst (e.seqL hs) (Dp.sameIs e ha)
  | .tuple _, _, h => by
    cases h with
    | tup hs ha => exact .tup (e.seqT hs) (Dp.sameIs e ha)
  | .dict _, _, h => by cases h
theorem Dp.sameIs {K : PySem.W.Frag} {H H' : Hp} (e : SameI H H') : ∀ {ds : List PyData} {vs : List V}, DpAll K H vs ds → DpAll K H' vs ds
  | [], _, h => by cases h; exact .nil
  | _ :: _, _, h => by
    cases h with
    | cons h1 h2 => exact .cons (Dp.sameI e h1) (Dp.sameIs e h2)
end
end Bx

-- needs tables deepI
/-! a set of pairs in the heap -/
namespace Bx
open PySem PySem.Spec PyProof.Rows L2
/-- a set: an instance that holds a table -/
structure SetAt (K : PySem.W.Frag) (H : Hp) (a : Addr) (t : Tb) : Prop where
  ex : ∃ dx p, H a = some (.ins (He.ga K "PairSet") dx [("parts", .ref p)]) ∧ H dx = some (.own a) ∧ Dp K H (.ref p) (tabD t)
theorem SetAt.sameT {K : PySem.W.Frag} {H H' : Hp} {a : Addr} {t : Tb} (e : SameT H H') (h : SetAt K H a t) : SetAt K H' a t := by
  obtain ⟨dx, p, h1, h2, h3⟩ := h.ex
  exact ⟨dx, p, e _ _ h1 (fun _ z => by cases z), e _ _ h2 (fun _ z => by cases z), Dp.sameT e (noL_tab t) h3⟩
/-- a new set -/
theorem SetAt.made {K : PySem.W.Frag} {H H' : Hp} {x dx p : Addr} {t : Tb} (hx : H x = none) (hdx : H dx = none) (hn : dx ≠ x) (e : Same (upd (upd H dx (.own x)) x (.ins (He.ga K "PairSet") dx [])) H') (hp : Dp K H' (.ref p) (tabD t)) :
    Same H (upd H' x (.ins (He.ga K "PairSet") dx [("parts", .ref p)])) ∧ SetAt K (upd H' x (.ins (He.ga K "PairSet") dx [("parts", .ref p)])) x t := by
  have e1 : Same H (upd (upd H dx (.own x)) x (.ins (He.ga K "PairSet") dx [])) := (same_new hdx).trans (same_new (by rw [upd_ne hn.symm]; exact hx))
  have hx' : H' x = some (.ins (He.ga K "PairSet") dx []) := e _ _ upd_same
  refine ⟨same_mut (e1.trans e) hx, ⟨dx, p, upd_same, ?_, Dp.sameI (SameI.put hx') hp⟩⟩
  rw [upd_ne hn]
  exact e _ _ (by rw [upd_ne hn, upd_same])
end Bx

-- imports HandS.ExcInit KE.KExcSuper KE.KSuper
/-! an own exception's __init__ that says super().__init__(text) -/
namespace Bx
open PySem PySem.Spec PyProof.Rows L2
/-- what the program's main text must be: its file, no own super -/
structure MainP (P : Program) (file : Str) : Prop where
  file : ((P.main.file : Str) == file) = true
  sup : (P.main.scope.names.lookup ("super" : Str)).isSome = false
structure ScopeS (N ps : List Str) (sc : Scope) : Prop where
  kind : sc.kind = .function
  co : sc.isCoroutine = false
  gen : sc.isGenerator = false
  nd : N.Nodup
  pre : N.take ps.length = ps
  par : ∀ x ∈ ps, sc.names.lookup x = some .local
  nocell : ∀ y ∈ sc.names, y.2 ≠ .cell
  free : ∀ y ∈ sc.names, y.2 = .free → y.1 = "__class__"
  cls : sc.names.lookup ("__class__" : Str) = some .free
  sup : sc.names.lookup ("super" : Str) = some .globalImplicit
abbrev envS (qual : Str) (scope : Scope) (L f : Addr) (cd : Value) (cc : Addr) : PySem.Env := PySem.W.ksEnv qual scope L f cd cc
def cxS (CX : CXT) (P : Program) (w : World) (K : PySem.W.Frag) (mg : Str → Option Value) (base : Heap) (N : List Str) (qual : Str) (scope : Scope) (f : Addr) (cd : Value) (cc : Addr) (A : Around) (outer : List PySem.Env) (s : Shared) (H : Hp) (E : XK) : Cx where
  prog := P
  w := w
  K := K
  mg := mg
  base := base
  A := A.deeper (envS qual scope s.heap.objs.size f cd cc)
  N := N
  s_0 := s
  H_0 := H
  env := envS qual scope s.heap.objs.size f cd cc
  outer := outer
  stack := envS qual scope s.heap.objs.size f cd cc :: outer
  ex := []
  calm := true
  fn := fun _ => false
  pn := []
  xe := fun e s' => wpAny (model P w) (A.deeper (envS qual scope s.heap.objs.size f cd cc)) (leaving (envS qual scope s.heap.objs.size f cd cc) e) (fun _ s'' => CX outer H s E e s'') (fun e' s'' => CX outer H s E e' s'') s'
theorem zip_rev {ps : List Str} {us : List Value} (nd : ps.Nodup) {i : Nat} {x : Str} {u : Value} (hx : ps[i]? = some x) (hu : us[i]? = some u) : (ps.zip us).reverse.lookup x = some u := by
  have key : ∀ {l : List (Str × Value)}, (l.map (·.1)).Nodup → (x, u) ∈ l → l.lookup x = some u := by
    intro l
    induction l with
    | nil => intro _ h; cases h
    | cons p l ih =>
      intro nd h
      obtain ⟨y, v⟩ := p
      have nd' := List.nodup_cons.mp (show (y :: l.map (·.1)).Nodup from nd)
      rcases List.mem_cons.mp h with e | h
      · cases e
        simp [List.lookup]
      · have ne : x ≠ y := fun z => nd'.1 (by rw [← z]; exact List.mem_map.mpr ⟨(x, u), h, rfl⟩)
        have eb : (x == y) = false := by simpa using ne
        simp only [List.lookup, eb]
        exact ih nd'.2 h
  refine key ?_ ?_
  · rw [List.map_reverse, (List.reverse_perm _).nodup_iff]
    exact nd.sublist (by
      clear hx hu nd
      induction ps generalizing us with
      | nil => exact List.nil_sublist _
      | cons p ps ih =>
        cases us with
        | nil => exact List.nil_sublist _
        | cons u us =>
          rw [List.zip_cons_cons, List.map_cons]
          exact (ih (us := us)).cons_cons p)
  · rw [List.mem_reverse]
    refine List.mem_iff_getElem?.mpr ⟨i, ?_⟩
    rw [List.getElem?_zip_eq_some]
    exact ⟨hx, hu⟩
theorem inv_startS {CX : CXT} {P : Program} {w : World} {K : PySem.W.Frag} {mg : Str → Option Value} {base : Heap} {N ps : List Str} {qual : Str} {scope : Scope} {f cc : Addr} {cd : Value} {A : Around} {outer : List PySem.Env} {s : Shared} {H : Hp} {E : XK} {us : List Value} {vs : List V} {h₁ : Heap} {tk : Nat}
    (S : ScopeS N ps scope) (hd : A.handled = none) (e0 : Env0 P w K mg base A outer s H) (hl : vs.length = ps.length) (r : Vals vs us) (hcell : ∃ o, base.get? cc = some o ∧ ∃ v, o.data = .cell v)
    (hns : h₁.Ns s.heap.objs.size fun x => (ps.zip us).reverse.lookup x) (kp : ∀ b o, s.heap.get? b = some o → h₁.get? b = some o) :
    Inv (cxS CX P w K mg base N qual scope f cd cc A outer s H E) [] (L2.start N vs) H { s with heap := h₁, toks := tk } := by
  have hpl : ps.length ≤ N.length := by have := congrArg List.length S.pre; rw [List.length_take] at this; omega
  have noA : ∀ b : Addr, b ∉ (cxS CX P w K mg base N qual scope f cd cc A outer s H E).ex := fun b z => absurd (show b ∈ ([] : List Addr) from z) (by simp)
  have cl : ∀ {y c}, [(("__class__" : Str), cc)].lookup y = some c → y = "__class__" ∧ c = cc := fun {y c} e => by
    by_cases q : y = "__class__"
    · rw [q] at e
      simp [List.lookup] at e
      exact ⟨q, e.symm⟩
    · have eb : (y == ("__class__" : Str)) = false := by simpa using q
      simp [List.lookup, eb] at e
  obtain ⟨oc, hoc, v, hv⟩ := hcell
  refine ⟨⟨e0.mod, S.kind, rfl, rfl, Nat.le_refl _, fun y z c h1 h2 => ?_, fun y hy => ?_, fun y c z _ => (by cases z), fun _ => hd, Around.frames_deeper e0.frames, .inr ⟨rfl, rfl⟩, fun b z => absurd z (noA b), e0.bs, e0.bsz, fun b _ _ => noA b, fun b z => absurd z (noA b), e0.funs, e0.frf⟩,
    rfl, e0.bare, Un.kept kp, ⟨_, hns, fun i y v h1 h2 h3 => ?_⟩, fun y c h => ?_, e0.hok.fresh (Nat.le_refl _), fun y c h => ?_, fun p hp => absurd (show p ∈ ([] : List (Addr × Obj)) from hp) (by simp), e0.hok.kept kp, ?_⟩
  · exact (cl h1).1.trans (cl h2).1.symm
  · have hy : scope.names.lookup y = some .cell ∨ scope.names.lookup y = some .free := hy
    rcases hy with hy | hy
    · exact absurd rfl (S.nocell _ (PySem.mem_of_lookup hy))
    · have e := S.free _ (PySem.mem_of_lookup hy) rfl
      refine ⟨cc, ?_⟩
      show [(("__class__" : Str), cc)].lookup y = some cc
      rw [show y = "__class__" from e]
      simp [List.lookup]
  · have hi : i < vs.length := by
      unfold L2.start at h2
      by_cases hi : i < vs.length
      · exact hi
      · rw [List.getElem?_append_right (by simpa using hi), List.getElem?_replicate] at h2
        split at h2 <;> cases h2
    have ha : vs[i]? = some v := by
      unfold L2.start at h2
      rw [List.getElem?_append_left (by simpa using hi), List.getElem?_map] at h2
      cases e : vs[i]? with
      | none => rw [e] at h2; cases h2
      | some a => rw [e] at h2; cases h2; rfl
    obtain ⟨u, hu, rv⟩ := r.get ha
    have hp : ps[i]? = some y := by
      rw [← S.pre, List.getElem?_take_of_lt (by omega)]; exact h1
    have ndP : ps.Nodup := by rw [← S.pre]; exact S.nd.sublist (List.take_sublist _ _)
    exact ⟨u, rv, .inl ⟨S.par y (List.mem_of_getElem? hp), zip_rev ndP hp hu⟩⟩
  · obtain ⟨_, e⟩ := cl h
    rw [e]
    exact ⟨v, oc, kp _ _ (e0.bs _ _ hoc).1, hv⟩
  · obtain ⟨_, e⟩ := cl h
    rw [e]
    exact (e0.bs _ _ hoc).2
  · unfold L2.start
    rw [List.length_append, List.length_map, List.length_replicate, hl]
    show ps.length + (N.length - _) = N.length
    omega
/-- what the written part says of C's own __init__ at f, its cell at cc, its code at cd -/
structure SupF (P : Program) (K : PySem.W.Frag) (C f cc cd : Addr) (fd : FuncData) : Prop where
  oex : OexC K C
  fn : ∃ oc od osl, K.lookup f = some ⟨oc, od, .func fd, osl⟩
  self : ∃ ar, (fd.params.posonlyargs ++ fd.params.args).head? = some ar ∧ ar.arg = "self"
  code : ∃ (cl : Value) (cdd : Option Addr) (vs : Array Value) (ccs : Array (Option Value)) (file : Str) (tf : PySem.Tok), K.lookup cd = some ⟨cl, cdd, .fields vs, ccs⟩ ∧ vs[2]? = some (.str file tf) ∧ MainP P file
  cell : ∃ (cl : Value) (cld : Option Addr) (csl : Array (Option Value)), K.lookup cc = some ⟨cl, cld, .cell (some (.ref C)), csl⟩
  sub : PySem.W.mroIn K C (.ref C) = some true
  sup : PySem.W.ks_superIn K C C "__init__" = some (some (.builtin "ValueError.__init__"))
  subB : PySem.W.subIn K (.ref C) (.type "ValueError") = some true
  stat : PySem.W.nsIn K cStatics "thirdparty.any" = some none
section
variable {prog : Program} {w : World} {M : Model} {A : Around} {E : Value → Shared → Prop} {h : Heap} {g : Array GenState} {d : Drawn} {t : Nat} {os : OsState}
variable {nm q : Str} {C N : Addr} {bs bm : List Value} {hdct : Bool} {sn : List Str} {sub : List Value} {ab : Bool} {col : Option Bool} {dd : Option Addr} {k0 k1 k2 k3 k5 : Option Value}
/-- the bound __init__ of ValueError, called -/
theorem call_veinit {u e t0 : Addr} {rest : List Value} {Q : Value → Shared → Prop}
    (hC : h.get? C = some (excClassObj nm q C N bs bm hdct sn sub ab col dd k0 k1 k2 k3 k5 "ValueError.__new__")) (he : h.get? e = some (HandSPX.excO C t0)) (hu : h.get? u = some (PySem.W.kxs_mw "ValueError.__init__" e)) (hrest : rest.length ≤ sizeLine)
    (hq : ∀ h' t1, (∀ b o, b ≠ e → h.get? b = some o → h'.get? b = some o) → h'.get? e = some (HandSPX.excO C t1) → Q .none ⟨h', g, d, t, os⟩) :
    wpAny (model prog w) A (call (.ref u) rest) Q E ⟨h, g, d, t, os⟩ := by
  refine wpAny_call (codeAny_of_tree ?_)
  show wpAny _ A.in1 (callAny (.ref u) ⟨rest, []⟩) _ _ _
  unfold callAny
  refine wpAny_bind (wpAny_load hu ?_)
  have k1 : (Value.type "method-wrapper" == Value.type "method" || Value.type "method-wrapper" == Value.type "builtin_function_or_method" || Value.type "method-wrapper" == Value.type "method-wrapper") = true := by decide
  simp only [PySem.W.kxs_mw, k1, if_true]
  refine PySem.W.KFB.if_so (by decide) ?_
  refine wpAny_bind (PySem.W.check_bound_init F.excBase_ValueError.toExcCallFacts hC he rfl ?_)
  refine wpAny_bind (wpAny_pure (wpAny_pure ?_))
  refine ⟨plainId_quiet F.excBase_ValueError.init.plain _, codeAny_builtin F.excBase_ValueError.initEntry ?_⟩
  exact PySem.W.exc_init_tree (cls := .ref C) (t0 := t0) (dv := none) (c2 := .none) (c3 := .none) (b4 := .bool false) he hrest fun h' k e' _ => hq h' _ k e'
end
section
variable {CX : CXT} {P : Program} {w : World} {K : PySem.W.Frag} {mg : Str → Option Value} {base : Heap} {N : List Str} {name qual : Str} {params : Arguments} {body : List Stmt} {scope : Scope} {dV kV doc pm ct : Value} {an : Option Addr} {f cc cd C a : Addr} {A : Around} {outer : List PySem.Env} {s0 s : Shared} {H0 H : Hp} {E : XK} {σ : L2.St} {ps : List Str}
/-- super().__init__(e) -/
theorem super_ok {e : Expr} {ta : TA} {p0 p1 p2 p3 p4 : Pos} {q : Hp → Prop} {pl : Sem Bool} (T : SupF P K C f cc cd (PySem.W.ksFn name qual params body scope dV kV doc pm an (.ref cd) ct cc)) (S : ScopeS N ps scope) (hmg : mg ("super" : Str) = none)
    (hN : N[0]? = some ("self" : Str)) (hself : scope.names.lookup ("self" : Str) = some .local) (hσ : σ[0]? = some (some (.ref a)))
    (I : Inv (cxS CX P w K mg base N qual scope f (.ref cd) cc A outer s0 H0 E) [] σ H s) (ha : PA (cxS CX P w K mg base N qual scope f (.ref cd) cc A outer s0 H0 E) [e] ta) (hea : H a = some (exo a C none))
    (h : ta σ H fun vs H1 => vs.length ≤ 1000 ∧ H1 a = some (exo a C none) ∧ q H1)
    (hev : eval (.Call (.Attribute (.Call (.Name "super" p0) [] [] p1) "__init__" p2) [e] [] p3) (envS qual scope s0.heap.objs.size f (.ref cd) cc) = (do
      let ov ← attributeBase (.Call (.Name "super" p0) [] [] p1) "__init__" (envS qual scope s0.heap.objs.size f (.ref cd) cc) (eval (.Call (.Name "super" p0) [] [] p1) (envS qual scope s0.heap.objs.size f (.ref cd) cc))
      standAt p2.atName
      let (fn, first) ← holding [ov] (getMethod ov "__init__" pl)
      callWith p3 fn first (backTo p3 (starEach [e] (envS qual scope s0.heap.objs.size f (.ref cd) cc))) []) := by rfl)
    (hi : interactive (envS qual scope s0.heap.objs.size f (.ref cd) cc) = false := by rfl) (hsw : swapsWith (.Call (.Attribute (.Call (.Name "super" p0) [] [] p1) "__init__" p2) [e] [] p3) none p4.line (envS qual scope s0.heap.objs.size f (.ref cd) cc) = pure false := by rfl)
    (he : starEach [e] (envS qual scope s0.heap.objs.size f (.ref cd) cc) = (false, eval e (envS qual scope s0.heap.objs.size f (.ref cd) cc)) :: starEach [] (envS qual scope s0.heap.objs.size f (.ref cd) cc) := by rfl) :
    _root_.PySem.wpAt (model P w) (A.deeper (envS qual scope s0.heap.objs.size f (.ref cd) cc)) (.func body (envS qual scope s0.heap.objs.size f (.ref cd) cc)) (exec (.Expr (.Call (.Attribute (.Call (.Name "super" p0) [] [] p1) "__init__" p2) [e] [] p3) p4) (envS qual scope s0.heap.objs.size f (.ref cd) cc))
      (fun fl s' => fl = .next ∧ ∃ H', Inv (cxS CX P w K mg base N qual scope f (.ref cd) cc A outer s0 H0 E) [] σ H' s' ∧ q H') (cxS CX P w K mg base N qual scope f (.ref cd) cc A outer s0 H0 E).xe s := by
  obtain ⟨oc, od, osl, lkf⟩ := T.fn
  obtain ⟨ar, har, ear⟩ := T.self
  obtain ⟨ccl, cdd, vsC, ccs, file, tf, lkc, hvs, MP⟩ := T.code
  obtain ⟨kcl, kcd, ksl, lkcell⟩ := T.cell
  obtain ⟨nm, q', N', bs, bm, sn, sub, ab, col, dd, k0, k1, k2, k3, k5, hC, hbm⟩ := T.oex.cls
  obtain ⟨mb, hblt, hboot⟩ := I.mod.blt
  obtain ⟨t1, hoa⟩ := exo_at I.hok hea
  obtain ⟨m, hns, hlk⟩ := I.loc
  have hD := I.kIn _ _ hC
  have hcl : PySem.W.clsIn K C = some { name := nm, bases := bs, mro := .ref C :: bm, ns := N', qualname := q', hasDict := true, slotNames := sn, subclasses := sub, abstract := ab, collection := col, hasDel := false } := by unfold PySem.W.clsIn; rw [hC] <;> rfl
  refine PySem.ks_wpAt_Expr_any ?_ hi hsw
  refine PySem.ks_wpAt_MethodCall (pl := pl) ?_ hev
  refine PySem.ks_wpAt_super_base S.sup S.cls (by decide) rfl (I.kIn _ _ lkf) rfl har rfl (I.kIn _ _ lkc) rfl hvs MP.file MP.sup ?_
  refine PySem.W.ks_loadName_global S.kind S.sup (Calls.loadGlobal_builtin (by exact I.mod.glob.keeps I.bk) hmg (by exact hblt.keeps I.bk) ((hboot _ (by decide)).trans (show bootBuiltins "super" = some (.type "super") by first | rfl | kernel_rfl)) ⟨rfl, ?_⟩)
  refine wpAny_loadName_free S.kind S.cls (by rfl) ⟨_, I.kIn _ _ lkcell, rfl⟩ ?_
  rw [ear]
  obtain ⟨ua, ra, hm⟩ := hlk 0 "self" (.ref a) hN hσ (.inl hself)
  cases ra
  have hma : m "self" = some (.ref a) := by
    rcases hm with ⟨_, z⟩ | ⟨z, _⟩
    · exact z
    · have z' : scope.names.lookup ("self" : Str) = some .cell ∨ scope.names.lookup ("self" : Str) = some .free := z
      rw [hself] at z'
      rcases z' with z' | z' <;> cases z'
  refine wpAny_loadName_local S.kind hself hns hma ?_
  obtain ⟨hp, g, dr, tk, os⟩ := s
  refine PySem.ks_wpAny_isType_cls hD rfl ⟨rfl, ?_⟩
  refine PySem.ks_wpAny_call_super (x := a) (C := C) (D := C) hD rfl hoa rfl (fun c e => by cases e) (PySem.W.looks_mroIn I.kIn T.sub) fun h' eso k => ?_
  have I1 : Inv (cxS CX P w K mg base N qual scope f (.ref cd) cc A outer s0 H0 E) [] σ H ⟨h', g, dr, tk, os⟩ := I.kept (t' := tk) k
  have hD1 := k _ _ hD
  have hoa1 := k _ _ hoa
  have ne : a ≠ C := fun z => by
    rw [z] at hoa1
    have hD1' : h'.get? C = _ := hD1
    rw [hoa1] at hD1'
    have := congrArg Obj.data (Option.some.inj hD1')
    cases this
  have hal : PySem.W.alongIn K "__init__" (((Value.ref C :: bm).dropWhile (· != .ref C)).drop 1) = some (some (.builtin "ValueError.__init__")) := by
    have := T.sup
    unfold PySem.W.ks_superIn at this
    rw [hcl] at this
    exact this
  have IA : PySem.W.InstAt h' a { cls := .ref C, dict := none, data := .fields #[.ref t1, .none, .none, .none, .bool false, .none] } C none := ⟨hoa1, rfl, rfl, trivial⟩
  refine PySem.W.kxs_getMethod PySem.W.kxs_ValueError eso (PySem.W.looks_opaque I1.kIn T.stat) (l₀ := .ref C :: bm) (fun A Q E s k q => wpAny_bind ((PySem.W.looks_clsIn I1.kIn hcl) A _ E s k (wpAny_pure q))) rfl I1.kIn hal (IA.type.andThen (PySem.W.looks_subIn I1.kIn T.subB)) ne (by decide) ?_
  have I2 : Inv (cxS CX P w K mg base N qual scope f (.ref cd) cc A outer s0 H0 E) [] σ H ⟨h'.push (PySem.W.kxs_mw "ValueError.__init__" a), g, dr, tk + 1, os⟩ := I1.kept (t' := tk + 1) fun b o e => Heap.get?_push_of_some _ e
  have I3 := I2.pins_of (pins' := [(h'.objs.size, PySem.W.kxs_mw "ValueError.__init__" a)]) fun p hp => by
    rw [List.mem_singleton.mp hp]
    exact ⟨Heap.get?_push_size _ rfl, I1.hok.fresh (Nat.le_refl _), Nat.ne_of_gt I1.lt, I1.nofs (Nat.le_refl _), fun v z => by cases z⟩
  have hr : wpAny (model P w) (A.deeper (envS qual scope s0.heap.objs.size f (.ref cd) cc)) (spliced (backTo p3 (starEach [e] (envS qual scope s0.heap.objs.size f (.ref cd) cc)))) _ _ ⟨h'.push (PySem.W.kxs_mw "ValueError.__init__" a), g, dr, tk + 1, os⟩ := ha.run p3 _ _ σ H _ I3 h
  show wpAny _ _ (callWith p3 (.ref h'.objs.size) [] (backTo p3 (starEach [e] (envS qual scope s0.heap.objs.size f (.ref cd) cc))) []) _ _ _
  rw [he] at hr ⊢
  refine PySem.W.kxs_callWith (i := "ValueError.__init__") (x := a) (by rfl) (Calls.evalArgs_plain ?_)
  refine wpAny_mono hr (fun us s1 hh => ?_) fun _ _ z => z
  obtain ⟨vs, H1, I4, r1, hlen, hea1, hq⟩ := hh
  refine ⟨(I4.pin _ (List.mem_append_right _ (List.mem_singleton.mpr rfl))).1, ?_⟩
  have hu := (I4.pin _ (List.mem_append_right _ (List.mem_singleton.mpr rfl))).1
  obtain ⟨t2, ho2⟩ := exo_at I4.hok hea1
  obtain ⟨hp2, g2, dr2, tk2, os2⟩ := s1
  show wpAny _ _ (call (.ref h'.objs.size) us) _ _ _
  refine call_veinit (I4.kIn _ _ hC) ho2 hu ?_ fun h5 t5 k5 e5 => ?_
  · rw [← Paired.length r1, sizeLine_eq]
    omega
  · have J := I4.write (t' := tk2) (x := a) (e := a) (o := exo a C none) (by rw [hea1]; exact True.intro) (.inl rfl) k5 ⟨_, e5⟩ (exo_ok e5)
    have eu : upd H1 a (exo a C none) = H1 := by
      funext b
      by_cases hb : b = a
      · rw [hb, upd_same, hea1]
      · rw [upd_ne hb]
    rw [eu] at J
    exact ⟨rfl, H1, J.pins_of (fun p hp => by cases hp), hq⟩
/-- THE RULE for such an __init__ -/
theorem init_ok {e : Expr} {rest : List Stmt} {p0 p1 p2 p3 p4 : Pos} {k : Nat} {sp : Sp} {pl : Str → Addr → Addr → Sem Bool}
    (T : SupF P K C f cc cd (PySem.W.ksFn name qual params (.Expr (.Call (.Attribute (.Call (.Name "super" p0) [] [] p1) "__init__" p2) [e] [] p3) p4 :: rest) scope dV kV doc pm an (.ref cd) ct cc)) (hcd : PySem.W.codeIn K (.ref cd) qual = true) (S : ScopeS N ps scope) (hmg : mg ("super" : Str) = none)
    (hN : N[0]? = some ("self" : Str)) (hself : scope.names.lookup ("self" : Str) = some .local) (len : ∀ vs H Q E, sp vs H Q E → vs.length = ps.length)
    (hbody : ∀ (A : Around) (outer : List PySem.Env) (s : Shared) (H : Hp) (vs : List V) (Q : VK) (E : XK), Room k (A.deeper (envS qual scope s.heap.objs.size f (.ref cd) cc)) → sp vs H Q E → ∃ (a : Addr) (ta : TA) (t : TS), (L2.start N vs)[0]? = some (some (.ref a)) ∧ H a = some (exo a C none) ∧
      PA (cxS CX P w K mg base N qual scope f (.ref cd) cc A outer s H E) [e] ta ∧ PSs (cxS CX P w K mg base N qual scope f (.ref cd) cc A outer s H E) rest t ∧
      ta (L2.start N vs) H fun ws H1 => ws.length ≤ 1000 ∧ H1 a = some (exo a C none) ∧ t { nx := fun _ H' => Q .non H', rt := Q } (L2.start N vs) H1)
    (hev : ∀ L : Addr, eval (.Call (.Attribute (.Call (.Name "super" p0) [] [] p1) "__init__" p2) [e] [] p3) (envS qual scope L f (.ref cd) cc) = (do
      let ov ← attributeBase (.Call (.Name "super" p0) [] [] p1) "__init__" (envS qual scope L f (.ref cd) cc) (eval (.Call (.Name "super" p0) [] [] p1) (envS qual scope L f (.ref cd) cc))
      standAt p2.atName
      let (fn, first) ← holding [ov] (getMethod ov "__init__" (pl qual f L))
      callWith p3 fn first (backTo p3 (starEach [e] (envS qual scope L f (.ref cd) cc))) []))
    (hi : ∀ L : Addr, interactive (envS qual scope L f (.ref cd) cc) = false) (hsw : ∀ L : Addr, swapsWith (.Call (.Attribute (.Call (.Name "super" p0) [] [] p1) "__init__" p2) [e] [] p3) none p4.line (envS qual scope L f (.ref cd) cc) = pure false)
    (he : ∀ L : Addr, starEach [e] (envS qual scope L f (.ref cd) cc) = (false, eval e (envS qual scope L f (.ref cd) cc)) :: starEach [] (envS qual scope L f (.ref cd) cc)) :
    FnOk P w K mg base CX (k + 1) f (PySem.W.ksFn name qual params (.Expr (.Call (.Attribute (.Call (.Name "super" p0) [] [] p1) "__init__" p2) [e] [] p3) p4 :: rest) scope dV kV doc pm an (.ref cd) ct cc) ps sp := by
  obtain ⟨oc, od, osl, lk⟩ := T.fn
  obtain ⟨kcl, kcd, ksl, lkcell⟩ := T.cell
  refine ⟨len, fun A outer s H args us vs Q E hr e0 hb r hsp => ?_⟩
  have hl := len _ _ _ _ hsp
  have KX : K.In s.heap := e0.mod.kin.keeps fun b o e => (e0.bs b o e).1
  have lim : s.heap.NoLimit := e0.mod.nolimit.keeps fun b o e => (e0.bs b o e).1
  refine PySem.ks_codeAny_call_defAt hr.depth (KX _ _ lk) rfl lim (PySem.W.codeRec_of KX hcd) rfl hb S.nocell (fun ⟨n, v⟩ hy => S.par n (List.of_mem_zip hy).1) (fun h₀ hns kp => ?_) S.co S.gen S.kind
  obtain ⟨a, ta, t, h0, hea, pa, pr, q⟩ := hbody A outer s H vs Q E (hr.deeper _) hsp
  have I : Inv (cxS CX P w K mg base N qual scope f (.ref cd) cc A outer s H E) [] (L2.start N vs) H { s with heap := h₀, toks := s.toks + (ps.zip us).length } := inv_startS S hr.hd e0 hl r ⟨_, e0.mod.kin _ _ lkcell, _, rfl⟩ hns kp
  refine PySem.ks_wpAt_execs_cons ?_
  refine PySem.ks_wpAt_mono (super_ok (q := fun H1 => t { nx := fun _ H' => Q .non H', rt := Q } (L2.start N vs) H1) T S hmg hN hself h0 I pa hea q (hev _) (hi _) (hsw _) (he _)) (fun fl s' hh => ?_) fun _ _ z => z
  obtain ⟨rfl, H1, I1, q1⟩ := hh
  refine PySem.wpAt_of_wpAny (wpAny_mono (pr.run [] s' _ H1 _ I1 q1) (fun fl s2 hs => ?_) fun _ _ z => z)
  have fin : ∀ {σ' : L2.St} {H' : Hp} {v : V} {u : Value}, Inv (cxS CX P w K mg base N qual scope f (.ref cd) cc A outer s H E) [] σ' H' s2 → L2.RelV v u → Q v H' → CE outer P w H s Q u s2 :=
    fun {σ' H' v u} J rv q => ⟨v, H', J.os, J.bare, J.base, J.hok, rv, q⟩
  cases fl with
  | ret u =>
    obtain ⟨v, σ', H', J, rv, q⟩ := hs
    exact fin J rv q
  | next =>
    obtain ⟨σ', H', J, q⟩ := hs
    exact fin (v := V.non) (u := Value.none) J rfl q
  | brk =>
    obtain ⟨_, _, _, q⟩ := hs
    exact False.elim q
  | cont =>
    obtain ⟨_, _, _, q⟩ := hs
    exact False.elim q
end
end Bx

-- needs excS
-- imports HandS.ExcField HandS.FStr HandS.TryMany HandS.ExcOwn
/-! raise C(), raise C(e): C an own class over ValueError with a tag and, where it has an argument, one field -/
namespace Bx
open PySem PySem.Spec PyProof.Rows L2
/-- all that is known of the class x: C its place, fI its __init__ -/
structure ExcK (K : PySem.W.Frag) (C fI : Addr) : Prop where
  oex : OexC K C
  ini : PySem.W.findIn K (.ref C) "__init__" = some (some (.ref fI))
  fun_ : PySem.W.typeIn K (.ref fI) = some (.type "function")
  xf : XfC K C
  tag : PySem.W.findIn K (.ref C) "tag" = some none
/-- __init__ without an argument -/
def spI0 (C : Addr) (nm : Str) : Sp := fun vs H Q _ => ∃ a, vs = [.ref a] ∧ H a = some (exo a C none) ∧ ∀ dx, H dx = none → dx ≠ a → Q .non (upd (upd H dx (exd dx [("tag", .str nm)])) a (exo a C (some dx)))
/-- __init__ with one -/
def spI1 (C : Addr) (nm fld : Str) (Ok : V → Hp → Prop) : Sp := fun vs H Q _ => ∃ a v, vs = [.ref a, v] ∧ H a = some (exo a C none) ∧ Ok v H ∧ ∀ dx, H dx = none → dx ≠ a → Q .non (upd (upd (upd H dx (exd dx [("tag", .str nm)])) a (exo a C (some dx))) dx (exd dx [(fld, v), ("tag", .str nm)]))
section
variable {X : Cx} {C fI : Addr} {fd : FuncData} {ps : List Str} {sp : Sp} {k : Nat} {CX : CXT} {pins : List (Addr × Obj)} {σ : L2.St} {H : Hp} {Q : XK} {s : Shared} {us : List Value} {vs : List V}
/-- the class called -/
theorem make_exc (T : ExcK X.K C fI) (F1 : FnOk X.prog X.w X.K X.mg X.base CX k fI fd ps sp) (hr : Room (k + 1) X.A) (hb : Binds X.K fd ps []) (hx : Passes CX X (fun _ _ _ => False)) (I : Inv X pins σ H s) (r : Vals vs us) (hz : vs.length ≤ 1000)
    (hq : ∀ a, H a = none → sp (.ref a :: vs) (upd H a (exo a C none)) (fun v H2 => v = .non ∧ ∃ (d : Addr) (fs : List (Str × V)), H2 a = some (exo a C (some d)) ∧ H2 d = some (exd d fs) ∧ H d = none ∧ Q (.ref C) (some d) (upd (del H2 a) d (.xd fs))) (fun _ _ _ => False)) :
    wpAny (model X.prog X.w) X.A (call (.ref C) us) (MkP X pins σ Q) X.xe s := by
  obtain ⟨nm, q, N, bs, bm, sn, sub, ab, col, dd, k0, k1, k2, k3, k5, hC, hbm⟩ := T.oex.cls
  obtain ⟨hp, g, dr, tk, os⟩ := s
  have le : hp.objs.size ≤ hp.objs.size + 1 := Nat.le_succ _
  have kept : ∀ b o, hp.get? b = some o → ((hp.push (PySem.W.kdv_tup us)).push (PySem.HandSPX.excO C hp.objs.size)).get? b = some o := fun b o e => Heap.get?_push_of_some _ (Heap.get?_push_of_some _ e)
  have at1 : ((hp.push (PySem.W.kdv_tup us)).push (PySem.HandSPX.excO C hp.objs.size)).get? (hp.objs.size + 1) = some (PySem.HandSPX.excO C hp.objs.size) := by heap_get
  have J : Inv X pins σ (upd H (hp.objs.size + 1) (exo (hp.objs.size + 1) C none)) ⟨(hp.push (PySem.W.kdv_tup us)).push (PySem.HandSPX.excO C hp.objs.size), g, dr, tk, os⟩ := I.laid (t' := tk) (o := exo (hp.objs.size + 1) C none) kept le (exo_ok at1)
  have q0 := hq (hp.objs.size + 1) (I.hok.fresh le)
  have r2 : Vals (V.ref (hp.objs.size + 1) :: vs) (Value.ref (hp.objs.size + 1) :: us) := .cons rfl r
  have hl : (Value.ref (hp.objs.size + 1) :: us ++ []).length = ps.length := by
    rw [List.append_nil, ← r2.length]
    exact F1.len _ _ _ _ q0
  have hus : us.length ≤ sizeLine := by rw [← Paired.length r, sizeLine_eq]; omega
  have hbt := hb ⟨(hp.push (PySem.W.kdv_tup us)).push (PySem.HandSPX.excO C hp.objs.size), g, dr, tk, os⟩ (Value.ref (hp.objs.size + 1) :: us) J.kIn hl
  rw [List.append_nil] at hbt
  refine wpAny_call (PySem.HandSPX.call_own F.excBase_ValueError (fun Y => PySem.HandSPX.refsVE_contains Y bm hbm) (I.kIn _ _ hC) (PySem.W.looks_findIn I.kIn T.ini) (fun self => PySem.W.bind_fn I.kIn self T.fun_) hus ?_)
  refine codeAny_mono (F1.run _ X.stack _ _ ⟨Value.ref (hp.objs.size + 1) :: us, []⟩ (Value.ref (hp.objs.size + 1) :: us) _ _ (fun _ _ _ => False) (hr.make C us []) (J.env0.make C us []) hbt r2 q0) fun res s' hres => ?_
  cases res with
  | error er => exact hx pins σ _ _ er s' J hres
  | ok fl =>
    cases fl with
    | next => exact False.elim hres
    | brk => exact False.elim hres
    | cont => exact False.elim hres
    | ret u =>
      obtain ⟨v, H2, os2, bare2, un2, hok2, rv, ev, d, fs, ea, ed, hd1, q2⟩ := hres
      subst ev
      obtain ⟨h2, g2, d2, t2, os'⟩ := s'
      exact ⟨rv, mk_end (raises_own T.oex.exC T.oex.tyC) I le kept un2 hok2 os2 bare2 ea ed hd1 q2⟩
end
theorem del_two {H : Hp} {a d : Addr} {o1 o2 o3 o4 : HO} (ha : H a = none) (hne : d ≠ a) : upd (del (upd (upd (upd (upd H a o1) d o2) a o3) d o4) a) d o4 = upd (upd H d o4) d o4 := by
  funext b
  by_cases hb : b = d
  · rw [hb, upd_same, upd_same]
  · rw [upd_ne hb, upd_ne hb]
    by_cases hba : b = a
    · rw [hba, del_same, upd_ne hne.symm, ha]
    · rw [del_ne hba, upd_ne hb, upd_ne hba, upd_ne hb, upd_ne hba, upd_ne hb]
theorem upd_upd {H : Hp} {d : Addr} {o o' : HO} : upd (upd H d o) d o' = upd H d o' := by
  funext b
  by_cases hb : b = d
  · rw [hb, upd_same, upd_same]
  · rw [upd_ne hb, upd_ne hb, upd_ne hb]
/-- the end of the first form, of the second -/
theorem fin0 {H : Hp} {a d C : Addr} {nm : Str} (ha : H a = none) (hne : d ≠ a) : upd (del (upd (upd (upd H a (exo a C none)) d (exd d [("tag", .str nm)])) a (exo a C (some d))) a) d (.xd [("tag", .str nm)]) = upd H d (.xd [("tag", .str nm)]) := by
  funext b
  by_cases hb : b = d
  · rw [hb, upd_same, upd_same]
  · rw [upd_ne hb, upd_ne hb]
    by_cases hba : b = a
    · rw [hba, del_same, ha]
    · rw [del_ne hba, upd_ne hba, upd_ne hb, upd_ne hba]
theorem fin1 {H : Hp} {a d C : Addr} {nm fld : Str} {v : V} (ha : H a = none) (hne : d ≠ a) : upd (del (upd (upd (upd (upd H a (exo a C none)) d (exd d [("tag", .str nm)])) a (exo a C (some d))) d (exd d [(fld, v), ("tag", .str nm)])) a) d (.xd [(fld, v), ("tag", .str nm)]) = upd H d (.xd [(fld, v), ("tag", .str nm)]) := by
  funext b
  by_cases hb : b = d
  · rw [hb, upd_same, upd_same]
  · rw [upd_ne hb, upd_ne hb]
    by_cases hba : b = a
    · rw [hba, del_same, ha]
    · rw [del_ne hba, upd_ne hb, upd_ne hba, upd_ne hb, upd_ne hba]
/-- the def at fI keeps the promise of an __init__ -/
def GoodI (P : Program) (w : World) (K : PySem.W.Frag) (mg : Str → Option Value) (base : Heap) (CX : CXT) (k : Nat) (C : Addr) (x : Str) (ps : List Str) (sp : Sp) : Prop :=
  ∃ fI fd, ExcK K C fI ∧ FnOk P w K mg base CX k fI fd ps sp ∧ Binds K fd ps [] ∧ mg x = some (.ref C)
section
variable {X : Cx} {C : Addr} {k : Nat} {CX : CXT} {x nm fld : Str} {p pos : Pos} {e : Expr} {ta : TA} {Ok : V → Hp → Prop} {ps : List Str}
theorem pmk_0 (G : GoodI X.prog X.w X.K X.mg X.base CX k C x ps (spI0 C nm)) (hr : Room (k + 1) X.A) (hg : Gl X x) (hx : Passes CX X (fun _ _ _ => False)) (hdb : (x == ("__debug__" : Str)) = false := by decide) :
    PMk X (.Call (.Name x p) [] [] pos) (fun _ H Q => ∀ d, H d = none → Q (.ref C) (some d) (upd H d (.xd [("tag", .str nm)]))) := by
  obtain ⟨fI, fd, T, F1, hb, hm⟩ := G
  intro pins s σ H Q I h
  refine wpAny_Call_Name_kw (ld_glob I hg hm ?_ hdb)
  refine PySem.W.callWith_K0 I.kIn T.oex.kC ?_
  refine make_exc (us := []) (vs := []) T F1 hr hb hx I .nil (Nat.zero_le _) fun a ha => ⟨a, rfl, upd_same, fun d hd hne => ⟨rfl, d, _, upd_same, by rw [upd_ne hne, upd_same], ?_, ?_⟩⟩
  · rw [upd_ne hne] at hd
    exact hd
  · rw [fin0 ha hne]
    rw [upd_ne hne] at hd
    exact h d hd
theorem pmk_1 (G : GoodI X.prog X.w X.K X.mg X.base CX k C x ps (spI1 C nm fld Ok)) (hr : Room (k + 1) X.A) (hg : Gl X x) (hx : Passes CX X (fun _ _ _ => False)) (ha : PA X [e] ta) (hdb : (x == ("__debug__" : Str)) = false := by decide)
    (hst : starEach [e] X.env = (false, eval e X.env) :: starEach [] X.env := by rfl) (hpl : (backTo pos (starEach [] X.env)).any (·.1) = false := by rfl) :
    PMk X (.Call (.Name x p) [e] [] pos) (fun σ H Q => ta σ H fun vs H1 => ∃ v, vs = [v] ∧ (∀ a, H1 a = none → Ok v (upd H1 a (exo a C none))) ∧ ∀ d, H1 d = none → Q (.ref C) (some d) (upd H1 d (.xd [(fld, v), ("tag", .str nm)]))) := by
  obtain ⟨fI, fd, T, F1, hb, hm⟩ := G
  intro pins s σ H Q I h
  refine wpAny_Call_Name_kw (ld_glob I hg hm ?_ hdb)
  refine PySem.W.callWith_K (h₀ := X.base) I.ok.mod.kin T.oex.kC (thn (ha.run pos pins s σ H _ I h) fun us s1 hh => ?_) hst hpl
  obtain ⟨vs, H1, I1, r1, v, rfl, ok, q⟩ := hh
  refine ⟨I1.kIn, ?_⟩
  refine make_exc T F1 hr hb hx I1 r1 (by show 1 ≤ 1000; decide) fun a ha => ⟨a, v, rfl, upd_same, ok a ha, fun d hd hne => ⟨rfl, d, _, by rw [upd_ne hne.symm, upd_same], upd_same, ?_, ?_⟩⟩
  · rw [upd_ne hne] at hd
    exact hd
  · rw [fin1 ha hne]
    rw [upd_ne hne] at hd
    exact q d hd
end
end Bx

-- needs excM clsrules
-- imports HandS.HeadNt HandS.HeadHook4 HandS.HeadWalk
/-! the head's facts: names, defs, defs at any address, __init__s that say super(), one more Bool, the empty tables of code objects -/
namespace Bx
open PySem PySem.Spec PyProof.Rows L2
def fnS (K : PySem.W.Frag) (a : Addr) : He.FnW := match K.lookup a with
  | some ⟨_, _, .func fd, _⟩ => some (fd.name, fd.qualname, fd.params, fd.body, fd.scope, fd.globals, fd.closure.map fun q => (q.1, 0), fd.builtins)
  | _ => none
/-- an own exception's __init__ that says super() -/
structure DefS where
  cls : Str
  qual : Str
  params : Arguments
  body : List Stmt
  scope : Scope
  file : Str
def DefS.at_ (K : PySem.W.Frag) (d : DefS) : Addr := He.ma K (He.ga K d.cls) "__init__"
def DefS.val (d : DefS) : He.FnW := some ("__init__", d.qual, d.params, .stmts d.body, d.scope, mainGlobals, [("__class__", 0)], builtinsNs)
def fileB (K : PySem.W.Frag) (cd : Value) (file : Str) : Bool := match cd with
  | .ref c => (match K.lookup c with
      | some ⟨_, _, .fields vs, _⟩ => (match vs.toList with | _ :: _ :: .str y _ :: _ => y == file | _ => false)
      | _ => false)
  | _ => false
def cellB (K : PySem.W.Frag) (cl : List (Str × Addr)) (C : Addr) : Bool := match cl with
  | [(_, cc)] => (match K.lookup cc with
      | some ⟨_, _, .cell (some (.ref D)), _⟩ => decide (D = C)
      | _ => false)
  | _ => false
def oexB (K : PySem.W.Frag) (C : Addr) : Bool := match K.lookup C with
  | some ⟨.type t, _, .cls cd, sl⟩ => decide (t = "type") && (match cd.mro, sl.toList with
    | .ref C' :: bm, [_, _, _, _, some (.builtin n), _] => decide (C' = C) && (decide (n = "ValueError.__new__") && (!cd.hasDel && (cd.hasDict && PySem.HandSPX.refsVE bm)))
    | _, _ => false)
  | _ => false
theorem oexB_ok {K : PySem.W.Frag} {C : Addr} (h : oexB K C = true) : ∃ nm q N bs bm sn sub ab col dd k0 k1 k2 k3 k5, K.lookup C = some (excClassObj nm q C N bs bm true sn sub ab col dd k0 k1 k2 k3 k5 "ValueError.__new__") ∧ PySem.HandSPX.refsVE bm = true := by
  unfold oexB at h
  split at h
  · rename_i t dd cd sl ho
    obtain ⟨ht, hh⟩ := He.ba h
    clear h
    obtain rfl := of_decide_eq_true ht
    split at hh
    · rename_i C' bm k0 k1 k2 k3 n k5 hm hs
      obtain ⟨h1, h⟩ := He.ba hh
      obtain ⟨h2, h⟩ := He.ba h
      obtain ⟨h3, h⟩ := He.ba h
      obtain ⟨h4, h5⟩ := He.ba h
      obtain rfl := of_decide_eq_true h1
      obtain rfl := of_decide_eq_true h2
      obtain ⟨nm, bs, mro, ns, qn, hd, sn, sb, ab, col, del⟩ := cd
      dsimp only at hm h3 h4
      subst hm h4
      have h3' : del = false := by cases del <;> first | rfl | cases h3
      subst h3'
      have hsl : sl = #[k0, k1, k2, k3, some (.builtin "ValueError.__new__"), k5] := by
        obtain ⟨l⟩ := sl
        simp only at hs
        rw [hs]
      subst hsl
      exact ⟨nm, qn, ns, bs, bm, sn, sb, ab, col, dd, k0, k1, k2, k3, k5, ho, h5⟩
    · cases hh
  · cases h
def DefS.ok (K : PySem.W.Frag) (d : DefS) : Bool := (match K.lookup (d.at_ K) with
  | some ⟨_, _, .func fd, _⟩ => PySem.W.codeIn K fd.code d.qual && (fileB K fd.code d.file && (cellB K fd.closure (He.ga K d.cls) && (decide (fd.defaults = .none) && decide (fd.kwdefaults = .none))))
  | _ => false) && (oexB K (He.ga K d.cls) && (He.eqO (PySem.W.findIn K (.ref (He.ga K d.cls)) "__setattr__") (some (some (.builtin "object.__setattr__"))) && (decide (PySem.W.subIn K (.ref (He.ga K d.cls)) (.type "BaseException") = some true) && (decide (PySem.W.typeIn K (.ref (He.ga K d.cls)) = some (.type "type")) && (PySem.W.keepIn K (.ref (He.ga K d.cls)) &&
    (He.eqO (PySem.W.findIn K (.ref (He.ga K d.cls)) "__init__") (some (some (.ref (d.at_ K)))) && (decide (PySem.W.typeIn K (.ref (d.at_ K)) = some (.type "function")) && (xfB K (He.ga K d.cls) && (He.eqO (PySem.W.findIn K (.ref (He.ga K d.cls)) "tag") (some none) &&
    (decide (PySem.W.mroIn K (He.ga K d.cls) (.ref (He.ga K d.cls)) = some true) && (He.eqO (PySem.W.ks_superIn K (He.ga K d.cls) (He.ga K d.cls) "__init__") (some (some (.builtin "ValueError.__init__"))) && (decide (PySem.W.subIn K (.ref (He.ga K d.cls)) (.type "ValueError") = some true) && He.eqO (PySem.W.nsIn K cStatics "thirdparty.any") (some none)))))))))))))
theorem fileB_ok {K : PySem.W.Frag} {cd : Value} {file : Str} (h : fileB K cd file = true) : ∃ (c : Addr) (cl : Value) (cdd : Option Addr) (vs : Array Value) (ccs : Array (Option Value)) (tf : PySem.Tok), cd = .ref c ∧ K.lookup c = some ⟨cl, cdd, .fields vs, ccs⟩ ∧ vs[2]? = some (.str file tf) := by
  unfold fileB at h
  split at h
  · rename_i c
    split at h
    · rename_i cl cdd vs ccs ho
      split at h
      · rename_i a b y t r hv
        obtain rfl : y = file := by simpa using h
        refine ⟨c, cl, cdd, vs, ccs, t, rfl, ho, ?_⟩
        have e : vs.toList[2]? = some (.str y t) := by rw [hv]; rfl
        simpa using e
      · cases h
    · cases h
  · cases h
theorem cellB_ok {K : PySem.W.Frag} {cl : List (Str × Addr)} {C : Addr} (h : cellB K cl C = true) : ∃ (x : Str) (cc : Addr) (kc : Value) (kd : Option Addr) (ks : Array (Option Value)), cl = [(x, cc)] ∧ K.lookup cc = some ⟨kc, kd, .cell (some (.ref C)), ks⟩ := by
  unfold cellB at h
  split at h
  · rename_i x cc
    split at h
    · rename_i kc kd D ks ho
      obtain rfl := of_decide_eq_true h
      exact ⟨x, cc, kc, kd, ks, rfl, ho⟩
    · cases h
  · cases h
/-- what the head tells of such a class -/
theorem DefS.get {P : Program} {K : PySem.W.Frag} {d : DefS} (MP : MainP P d.file) (hs : ∃ ar, (d.params.posonlyargs ++ d.params.args).head? = some ar ∧ ar.arg = "self") (e : fnS K (d.at_ K) = d.val) (c : d.ok K = true) :
    ∃ (kV doc pm ct : Value) (an : Option Addr) (cd cc : Addr), SupF P K (He.ga K d.cls) (d.at_ K) cc cd (PySem.W.ksFn "__init__" d.qual d.params d.body d.scope .none .none doc pm an (.ref cd) ct cc) ∧ PySem.W.codeIn K (.ref cd) d.qual = true ∧ ExcK K (He.ga K d.cls) (d.at_ K) := by
  unfold DefS.ok at c
  obtain ⟨c0, c⟩ := He.ba c
  obtain ⟨c1, c⟩ := He.ba c
  obtain ⟨c2, c⟩ := He.ba c
  obtain ⟨c3, c⟩ := He.ba c
  obtain ⟨c4, c⟩ := He.ba c
  obtain ⟨c5, c⟩ := He.ba c
  obtain ⟨c6, c⟩ := He.ba c
  obtain ⟨c7, c⟩ := He.ba c
  obtain ⟨c8, c⟩ := He.ba c
  obtain ⟨c9, c⟩ := He.ba c
  obtain ⟨c10, c⟩ := He.ba c
  obtain ⟨c11, c⟩ := He.ba c
  obtain ⟨c12, c13⟩ := He.ba c
  have OX : OexC K (He.ga K d.cls) := ⟨oexB_ok c1, He.eqO_ok c2, of_decide_eq_true c3, of_decide_eq_true c4, c5⟩
  have EX : ExcK K (He.ga K d.cls) (d.at_ K) := ⟨OX, He.eqO_ok c6, of_decide_eq_true c7, xfB_ok c8, He.eqO_ok c9⟩
  unfold fnS at e
  cases q : K.lookup (d.at_ K) with
  | none =>
    rw [q] at c0
    cases c0
  | some o =>
    obtain ⟨oc, od, dt, osl⟩ := o
    rw [q] at c0 e
    cases dt with
    | func fd =>
      obtain ⟨n1, n2, n3, n4, n5, n6, n7, n8, n9, n10, n11, n12, n13, n14, n15⟩ := fd
      have e2 : (some (n1, n2, n3, n4, n5, n6, n7.map (fun q => (q.1, 0)), n15) : He.FnW) = some (("__init__" : Str), d.qual, d.params, FuncBody.stmts d.body, d.scope, mainGlobals, [(("__class__" : Str), 0)], builtinsNs) := e
      simp only [Option.some.injEq, Prod.mk.injEq] at e2
      obtain ⟨h1, h2, h3, h4, h5, h6, h7, h8⟩ := e2
      subst h1 h2 h3 h4 h5 h6 h8
      have c3' : (PySem.W.codeIn K n13 d.qual && (fileB K n13 d.file && (cellB K n7 (He.ga K d.cls) && (decide (n8 = .none) && decide (n9 = .none))))) = true := c0
      obtain ⟨k1, k⟩ := He.ba c3'
      obtain ⟨k2, k⟩ := He.ba k
      obtain ⟨k3, k⟩ := He.ba k
      obtain ⟨k4, k5⟩ := He.ba k
      obtain rfl := of_decide_eq_true k4
      obtain rfl := of_decide_eq_true k5
      obtain ⟨cd, ccl, cdd, vs, ccs, tf, rfl, lc, hv⟩ := fileB_ok k2
      obtain ⟨x, cc, kc, kd, ks, rfl, lcc⟩ := cellB_ok k3
      have hx : x = "__class__" := by
        have := List.cons.inj h7
        exact (Prod.mk.inj this.1).1
      subst hx
      exact ⟨.none, n10, n11, n14, n12, cd, cc, ⟨OX, ⟨oc, od, osl, q⟩, hs, ⟨ccl, cdd, vs, ccs, d.file, tf, lc, hv, MP⟩, ⟨kc, kd, ks, lcc⟩, of_decide_eq_true c10, He.eqO_ok c11, of_decide_eq_true c12, He.eqO_ok c13⟩, k1, EX⟩
    | _ => cases c0
def cellsOf (g : Addr → Option Obj) (as : List Addr) : List Addr := as.flatMap fun a => match g a with
  | some ⟨_, _, .func fd, _⟩ => fd.closure.map (·.2)
  | _ => []
def withCells (g : Addr → Option Obj) (as : List Addr) : List Addr := as ++ cellsOf g as
def asW (g : Addr → Option Obj) (n : Nat) : List Addr := withCells g (He5.asA g n)
abbrev AlW : Type := He.AlD × He.AlD × He.AlD × Bool
def obsWK (fa : List He.Fa) (fn : List He.DefD) (fna : List He5.DefA) (fns : List DefS) (tf : List He.Defn) (ex : PySem.W.Frag → Bool) (g : Addr → Option Obj) (K : PySem.W.Frag) : AlW :=
  (He.obsD fa fn K, He5.obsA [] fna K, (fns.all fun d => d.ok K, fns.map fun d => fnS K (d.at_ K)), ex K && He.tabsB g tf K)
def obsW (n : Nat) (fa : List He.Fa) (fn : List He.DefD) (fna : List He5.DefA) (fns : List DefS) (tf : List He.Defn) (ex : PySem.W.Frag → Bool) (g : Addr → Option Obj) : AlW := obsWK fa fn fna fns tf ex g (He.frT g (asW g n))
def valW (fn : List He.DefD) (fna : List He5.DefA) (fns : List DefS) : AlW := (He.valD fn, He5.valA fna, (true, fns.map DefS.val), true)
def SaysS (fns : List DefS) (K : PySem.W.Frag) : Prop := ((fns.all fun d => d.ok K, fns.map fun d => fnS K (d.at_ K)) : He.AlD) = (true, fns.map DefS.val)
theorem SaysS.def_ {fns : List DefS} {K : PySem.W.Frag} (c : SaysS fns K) (i : Nat) {d : DefS} (h : fns[i]? = some d := by rfl) : fnS K (d.at_ K) = d.val ∧ d.ok K = true := by
  have c1 : (fns.all fun d => d.ok K) = true := congrArg (fun z : He.AlD => z.1) c
  have c2 : (fns.map fun d => fnS K (d.at_ K)) = fns.map DefS.val := congrArg (fun z : He.AlD => z.2) c
  have c3 : (fns.map fun d => fnS K (d.at_ K))[i]? = (fns.map DefS.val)[i]? := by rw [c2]
  rw [List.getElem?_map, List.getElem?_map, h] at c3
  exact ⟨Option.some.inj c3, List.all_eq_true.mp c1 d (List.mem_of_getElem? h)⟩
structure SaysW (fa : List He.Fa) (fn : List He.DefD) (fna : List He5.DefA) (fns : List DefS) (tf : List He.Defn) (ex : PySem.W.Frag → Bool) (h : Heap) (K : PySem.W.Frag) : Prop where
  d : He.SaysD fa fn K
  a : He5.SaysA [] fna K
  s : SaysS fns K
  more : ex K = true
  hd : ∀ p ∈ tf, PySem.W.codeHdIn K (He.cT K p).1 (He.cT K p).2 = true
  out : ∀ p ∈ tf, K.lookup (He.cT K p).2 = none
  empty : ∀ p ∈ tf, h.get? (He.cT K p).2 = some { cls := .none, data := .fields #[] }
theorem saysW_of {n : Nat} {fa : List He.Fa} {fn : List He.DefD} {fna : List He5.DefA} {fns : List DefS} {tf : List He.Defn} {ex : PySem.W.Frag → Bool} {h : Heap} (e : obsW n fa fn fna fns tf ex h.get? = valW fn fna fns) : SaysW fa fn fna fns tf ex h (He.frT h.get? (asW h.get? n)) := by
  unfold obsW at e
  generalize hK : He.frT h.get? (asW h.get? n) = K at e ⊢
  have e1 : He.obsD fa fn K = He.valD fn := congrArg (fun z : AlW => z.1) e
  have e2 : He5.obsA [] fna K = He5.valA fna := congrArg (fun z : AlW => z.2.1) e
  have e3 := congrArg (fun z : AlW => z.2.2.1) e
  have e4 : (ex K && He.tabsB h.get? tf K) = true := congrArg (fun z : AlW => z.2.2.2) e
  obtain ⟨h1, h2⟩ := He.ba e4
  have key : ∀ p ∈ tf, PySem.W.codeHdIn K (He.cT K p).1 (He.cT K p).2 = true ∧ ∃ o, h.get? (He.cT K p).2 = some o ∧ He.emptyTab o = true := fun p hp => by
    obtain ⟨h3, h4⟩ := He.ba (List.all_eq_true.mp h2 p hp)
    refine ⟨h3, ?_⟩
    cases q : h.get? (He.cT K p).2 with
    | none => rw [q] at h4; cases h4
    | some o => rw [q] at h4; exact ⟨o, rfl, h4⟩
  refine ⟨e1, e2, e3, h1, fun p hp => (key p hp).1, fun p hp => ?_, fun p hp => ?_⟩
  · obtain ⟨_, o, q, z⟩ := key p hp
    rw [← hK] at q ⊢
    exact He.frT_none q z
  · obtain ⟨_, o, q, z⟩ := key p hp
    rw [q, He.emptyTab_eq z]
def hookW (n : Nat) (fa : List He.Fa) (fn : List He.DefD) (fna : List He5.DefA) (fns : List DefS) (tf : List He.Defn) (ex : PySem.W.Frag → Bool) : PySem.W.Hook where
  α := AlW
  obs := fun s => obsW n fa fn fna fns tf ex s.heap.get?
  val := fun _ => valW fn fna fns
  says := fun _ h => ∃ K : PySem.W.Frag, K.In h ∧ SaysW fa fn fna fns tf ex h K
  of := fun _ _ e => ⟨_, He.frT_in, saysW_of e⟩
  keeps := fun _ _ _ ⟨K, hK, c⟩ k => ⟨K, PySem.W.Frag.In.keeps hK k, ⟨c.d, c.a, c.s, c.more, c.hd, c.out, fun p hp => k _ _ (c.empty p hp)⟩⟩
theorem obsW_eq {n : Nat} {fa : List He.Fa} {fn : List He.DefD} {fna : List He5.DefA} {fns : List DefS} {tf : List He.Defn} {ex : PySem.W.Frag → Bool} {g : Addr → Option Obj} {s : Shared} (h : ∀ a, g a = s.heap.get? a) : obsW n fa fn fna fns tf ex g = (hookW n fa fn fna fns tf ex).obs s := by
  have e : g = s.heap.get? := funext h
  rw [e] <;> rfl
/-- the end of a law with lambdas -/
theorem closingW {fal : List He.Fa} {fnl : List He.DefD} {fna : List He5.DefA} {fns : List DefS} {xf : PySem.W.Frag → Bool} {l : PySem.W.OpenLaw} {w : World} {K : PySem.W.Frag} {h : Heap} {mg : Str → Option Value} {fa : Addr} {k : Nat} {sp : PySem.W.Frag → Sp} {pa : Arguments} {bd : List Stmt} {sc : Scope}
    (KX : K.In h) (G : h.Ns mainGlobals mg) (hmg : mg ("law" : Str) = some (.ref fa)) (c : SaysW fal fnl fna fns [("law", none)] xf h K) (gl : Env fal fnl fna xf K mg → mg ("law" : Str) = some (.ref (He.ga K "law")))
    (D : ∃ fd, FunD K "law" "law" pa bd sc [] [] (He.ga K "law") fd)
    (F : ∀ (base : Heap) (fd : FuncData), Env fal fnl fna xf K mg → SaysS fns K → LamX.TabB base mg (He.cT K ("law", none)).1 (He.cT K ("law", none)).2 → FunD K "law" "law" pa bd sc [] [] (He.ga K "law") fd → FnOk l.prog w K mg base CX0 k (He.ga K "law") fd ["script"] (sp K))
    (b : ∀ {fd : FuncData}, FunD K "law" "law" pa bd sc [] [] (He.ga K "law") fd → ∀ (s : Shared) (v : Value), BindsTo s fd ⟨[v], []⟩ [("script", v)])
    (hsp : ∀ (H : Hp) (a : Addr) (ns : List Int), ns.length ≤ 63 → H (He.cT K ("law", none)).2 = some (.tbl #[]) → SqL K H a (ns.map V.int) → sp K [.ref a] H (fun v _ => v = .bl true) fun _ _ _ => False) :
    LamX.LawAtS l w K CX0 k 63 "script" mg fa h := by
  have E : Env fal fnl fna xf K mg := ⟨⟨h, KX, G⟩, c.d, c.a, c.more⟩
  obtain ⟨fd, hD⟩ := D
  have e := (gl E).symm.trans hmg
  cases e
  have m1 : (("law", none) : He.Defn) ∈ ([("law", none)] : List He.Defn) := List.mem_singleton.mpr rfl
  have on : ∀ {p : Addr × Addr}, p ∈ [He.cT K ("law", none)] → p = He.cT K ("law", none) := fun hp => List.mem_singleton.mp hp
  refine ⟨fd, [He.cT K ("law", none)], sp K, fun p hp => ?_, fun p hp => ?_, fun p hp => ?_, b hD, fun H a ns hl _ hT hS => hsp H a ns hl (hT _ (List.mem_singleton.mpr rfl)) hS, fun base _ _ hTB => F base fd E c.s (hTB _ (List.mem_singleton.mpr rfl)) hD⟩
  · rw [on hp]; exact c.empty _ m1
  · rw [on hp]; exact c.out _ m1
  · rw [on hp]; exact PySem.W.codeHd_of_K KX (c.hd _ m1)
/-- a def whose code object is told: for what makes defs of its own -/
theorem _root_.L2.FunD.okC {P : Program} {w : World} {K : PySem.W.Frag} {mg : Str → Option Value} {base : Heap} {x : Str} {params : Arguments} {body : List Stmt} {scope : Scope} {dvs : List V} {kws : List (Str × V)} {fd : FuncData} {CX : CXT} {N ps : List Str} {k : Nat} {sp : Sp} (F : FunD K x x params body scope dvs kws (He.ga K x) fd) (S : FnScope N ps scope) (len : ∀ vs H Q E, sp vs H Q E → vs.length = ps.length)
    (hbody : ∀ (A : Around) (outer : List PySem.Env) (s : Shared) (H : Hp) (vs : List V) (Q : VK) (E : XK), Room k (A.deeper (envOfC x scope s.heap.objs.size (He.ga K x) (.ref (He.cT K (x, none)).1))) → sp vs H Q E →
      ∃ t, PSs (cxOf CX P w K mg base N x scope (He.ga K x) (.ref (He.cT K (x, none)).1) A outer s H E) body t ∧ t { nx := fun _ H' => Q .non H', rt := Q } (L2.start N vs) H) : FnOk P w K mg base CX (k + 1) (He.ga K x) fd ps sp := by
  obtain ⟨oc, od, dV, kV, doc, pm, an, cdv, ct, osl, rfl, lk, hcd, _, _⟩ := F.ex
  obtain ⟨c, rfl⟩ := He.codeIn_ref hcd
  have e : He.codeOf K (x, none) = c := He.codeOf_eq (p := (x, none)) (by exact lk) rfl
  have e2 : (He.cT K (x, none)).1 = c := e
  rw [e2] at hbody
  exact fn_of lk hcd S len fun A outer s H vs Q E hr hsp => hbody A outer s H vs Q E hr hsp
end Bx

-- needs hookW
-- imports HandS.TryMany HandS.HotCalls
/-! try: .. except X as e: .. (the first of several clauses; it is X's), the exception told in the heap; defs called there -/
namespace Bx
open PySem PySem.Spec PyProof.Rows L2
/-- a caught exception at a: its class, its dict -/
def excT (a : Addr) (cls : Value) (d : Option Addr) : HO := .ext fun h => ∃ o vs, h.get? a = some o ∧ Zc cls d o ∧ o.data = .fields vs
theorem excT_ne {a : Addr} {cls : Value} {d : Option Addr} : (∀ x, excT a cls d ≠ .own x) ∧ (∀ x, excT a cls d ≠ .tup x) ∧ (∀ o u, excT a cls d ≠ .frz o u) ∧ (∀ p, excT a cls d ≠ .tbl p) ∧ ∀ x, excT a cls d ≠ .lst x :=
  ⟨(fun x z => by unfold excT at z; cases z), (fun x z => by unfold excT at z; cases z), (fun o u z => by unfold excT at z; cases z), (fun p z => by unfold excT at z; cases z), (fun p z => by unfold excT at z; cases z)⟩
section
variable {X : Cx} {pins : List (Addr × Obj)} {σ : L2.St} {H : Hp} {s : Shared}
/-- a fresh record is told from now on -/
theorem Inv.told {a : Addr} {cls : Value} {d : Option Addr} {o : Obj} {vs : Array Value} (I : Inv X pins σ H s) (ha : s.heap.get? a = some o) (hz : Zc cls d o) (hd : o.data = .fields vs) (na : H a = none) (n0 : X.s_0.heap.get? a = none) (nL : a ≠ X.env.locals) (np : ∀ p ∈ X.pn ++ pins, p.1 ≠ a) :
    Inv X pins σ (upd H a (excT a cls d)) s := by
  have ne : ∀ {b : Addr} {u : HO}, H b = some u → b ≠ a := fun e => ne_of_none e na
  refine ⟨I.ok, I.os, I.bare, ⟨I.base.keep, I.base.slot, fun b u e n x => ?_, I.base.there, fun b u e => ?_, fun b u v e => ?_, fun b u e => ?_⟩, I.loc, I.cell, ?_, fun x c e => ?_, fun p hp => ?_, fun b u e => ?_, I.len⟩
  · rw [upd_ne (fun z => by rw [z, n0] at e; cases e)]
    exact I.base.free b u e n x
  · have := I.base.tups b u e
    rw [upd_ne (ne this)]; exact this
  · have := I.base.frzs b u v e
    rw [upd_ne (ne this)]; exact this
  · obtain ⟨more, h⟩ := I.base.tbls b u e
    exact ⟨more, by rw [upd_ne (ne h)]; exact h⟩
  · rw [upd_ne nL.symm]; exact I.free
  · have nc : c ≠ a := fun z => by
      obtain ⟨v, oc, ho, hv⟩ := I.cell x c e
      rw [z, ha] at ho
      cases ho
      rw [hd] at hv
      cases hv
    rw [upd_ne nc]; exact I.freeC x c e
  · obtain ⟨h1, h2, h3⟩ := I.pin p hp
    exact ⟨h1, by rw [upd_ne (np p hp)]; exact h2, h3⟩
  · by_cases hb : b = a
    · subst hb
      rw [upd_same] at e
      cases e
      exact ⟨⟨o, vs, ha, hz, hd⟩, ⟨o, ha⟩, fun h1 h2 ⟨o', vs', q1, q2, q3⟩ k => ⟨o', vs', k _ q1, q2, q3⟩⟩
    · rw [upd_ne hb] at e
      exact (I.hok b u e).stay (fun _ _ _ q => q) (fun c hc => by rw [upd_ne (ne hc)]; exact hc) fun c xs hc => by rw [upd_ne (ne hc)]; exact hc
theorem excT_at {a : Addr} {cls : Value} {d : Option Addr} (I : Inv X pins σ H s) (e : H a = some (excT a cls d)) : ∃ o vs, s.heap.get? a = some o ∧ Zc cls d o ∧ o.data = .fields vs := by
  have x : ObjOk X.prog X.w H s.heap a (.ext fun h => ∃ o vs, h.get? a = some o ∧ Zc cls d o ∧ o.data = .fields vs) := I.hok a _ e
  exact x.1
end
/-- e.f, e a caught exception -/
def tXT (K : PySem.W.Frag) (f : Str) (te : TE) : TE := fun σ H Q => te σ H fun x H1 => ∃ (a C dd : Addr) (fs : List (Str × V)) (v : V), x = .ref a ∧ H1 a = some (excT a (.ref C) (some dd)) ∧ XfC K C ∧ PySem.W.findIn K (.ref C) f = some none ∧ H1 dd = some (.xd fs) ∧ fs.lookup f = some v ∧ Q v H1
theorem pe_xT {X : Cx} {e : Expr} {te : TE} {pos : Pos} {n : Str} (he : PE X e te) (hb : attributeBase e n X.env (eval e X.env) = eval e X.env := by rfl) : PE X (.Attribute e n pos) (tXT X.K n te) := by
  refine ⟨fun pins s σ H Q I h => ?_⟩
  refine attr_of hb (thn (he.run pins s σ H _ I h) fun u s1 hh => ?_)
  obtain ⟨x, H1, I1, rx, a, C, dd, fs, v, rfl, ha, T, hno, hdd, l, q⟩ := hh
  obtain rfl : u = Value.ref a := rx
  obtain ⟨o, vs, ho, hz, hd⟩ := excT_at I1 ha
  have hx : ObjOk X.prog X.w H1 s1.heap dd (.xd fs) := I1.hok dd _ hdd
  obtain ⟨mA, hns, hr⟩ := hx
  obtain ⟨od, hod, hl⟩ := lookIn_ns hns
  obtain ⟨u, hu, ru⟩ := RelO.some_of (v := v) (o := mA n) (by rw [← l]; exact hr n)
  have J : PySem.W.InstAt s1.heap a o C (some od) := ⟨ho, hz.1, by unfold PySem.W.notCls; rw [hd] <;> rfl, by rw [hz.2]; exact hod⟩
  exact HandSPX.exc_get I1.kIn J T.ga T.gg T.exC (PySem.W.findObj_own T.hdC hno rfl (by rw [hl, hu])) (handed_of ru) ⟨v, H1, I1.tok _, ru, q⟩
/-- what 'except X as n', the first clause, wishes -/
def wAs1 (nl : Nat) (K : PySem.W.Frag) (c : Value) (i : Nat) (ts : TS) (D : Ends) : WX := fun cls d σ H => PySem.W.exmOne K cls c = some true ∧ ∀ a, H a = none → σ.length = nl → ts { nx := fun σ' H' => D.nx (σ'.set i none) H', rt := D.rt, bk := fun σ' H' => D.bk (σ'.set i none) H', ct := fun σ' H' => D.ct (σ'.set i none) H' } (σ.set i (some (.ref a))) (upd H a (excT a cls d))
/-- the context of the suite -/
abbrev suiteX (X : Cx) (a : Addr) (pn : List (Addr × Obj)) : Cx := { X with A := X.A.mark (some (.ref a)), calm := false, pn := pn, xe := fun _ _ => False }
section
variable {X : Cx} {x n : Str} {c : Value} {i : Nat} {body suite : List Stmt} {b₀ : Stmt} {np pos pos' : Pos} {hds : List ExceptHandler} {tb : WX → TS} {ts : TS}
theorem ps_try_as1 (hex : X.ex = []) (hs : X.stack = X.env :: X.outer) (hf : X.env.frame = some X.env.locals) (hN : X.N.Nodup) (hi : X.N[i]? = some n) (hln : X.env.kindOf n = some .local) (hc : Names X x c)
    (hb : ∀ (W : WX) (pn : List (Addr × Obj)) (xe : Value → Shared → Prop), Takes (X.tr pn xe) W → PassesOwn (model X.prog X.w) X.A X.env xe → PSs (X.tr pn xe) body (tb W))
    (hsu : ∀ (a : Addr) (pn : List (Addr × Obj)), PSs (suiteX X a pn) (b₀ :: suite) ts) :
    PS X (.Try body (.ExceptHandler (some (.Name x np)) (some n) (b₀ :: suite) pos' :: hds) [] [] pos) (fun D σ H => tb (wAs1 X.N.length X.K c i ts D) D σ H) := by
  refine ⟨fun pins s σ H D I h => ?_⟩
  have ok := I.ok
  have frm : X.A.frames = some (X.env :: X.outer) := by rw [ok.frames, hs]
  refine wpAny_Try_except ?_
  have run := (hb (wAs1 X.N.length X.K c i ts D) (X.pn ++ pins) (fun e s₁ => wpAny (model X.prog X.w) X.A (noteFrame e X.env) (fun _ s₂ => wpAny (model X.prog X.w) X.A (setFlight e none) (fun _ s₃ =>
    wpAny (model X.prog X.w) X.A (handleBy e X.env (.ExceptHandler (some (.Name x np)) (some n) (b₀ :: suite) pos' :: hds)) (SP X pins D) X.xe s₃) X.xe s₂) X.xe s₁) (fun u s' xx => ?_) PassesOwn.looking).run [] s σ H D (I.toTry _) h
  · refine wpAny_mono run (fun f s1 hsp => ?_) fun _ _ z => z
    cases f with
    | next =>
      obtain ⟨σ', H', J', q⟩ := hsp
      exact wpAny_execs_nil ⟨σ', H', J'.ofTry ok, q⟩
    | brk =>
      obtain ⟨σ', H', J', q⟩ := hsp
      exact ⟨σ', H', J'.ofTry ok, q⟩
    | cont =>
      obtain ⟨σ', H', J', q⟩ := hsp
      exact ⟨σ', H', J'.ofTry ok, q⟩
    | ret u =>
      obtain ⟨v, σ', H', J', r, q⟩ := hsp
      exact ⟨v, σ', H', J'.ofTry ok, r, q⟩
  · obtain ⟨a, B, sI, pins', σ', H', cls, d, rfl, J', nb, up, sky, na, os, ag, hb1, hyes⟩ := xx
    have J : Inv X pins σ' H' sI := J'.ofTry ok
    have sky' : Sky B (X.env :: X.outer) a (Zc cls d) X.env.locals s'.heap := by rw [← hs]; exact sky
    have Bn : B.get? a = none := by
      rcases sky' with ⟨_, h, _⟩ | h | h
      · exact h
      · exact h.2.1
      · exact h.2.1
    show wpAny (model X.prog X.w) X.A (noteFrame (.ref a) X.env) _ _ _
    refine Sky.land Zc.steady frm hf sky' fun h3 fl3 up3 => ?_
    have J3 : Inv X pins σ' H' { s' with heap := h3 } := J.landed nb fl3.1 (up.trans up3) os ag
    obtain ⟨oe3, vs3, he3, hz3, hd3⟩ := fl3.there
    have notFr : ∀ {h : Heap} {o : Obj} {vs : Array Value}, h.FunFrames B (X.env :: X.outer) → h.get? a = some o → o.data = .fields vs → a ∉ frs (X.env :: X.outer) := fun {h o vs} ff e dd hm => by
      obtain ⟨_, o', e', hnf⟩ := ff.mem hm
      rw [e] at e'
      cases e'
      exact hnf _ dd
    have nfr := notFr fl3.2.2.1 he3 hd3
    have nfs : a ∉ frs X.stack := by rw [hs]; exact nfr
    have nI : ∀ o, sI.heap.get? a ≠ some o := fun o e => by
      have := nb a o e nfs
      rw [Bn] at this
      cases this
    have nL : a ≠ X.env.locals := fun z => nfr (List.mem_filterMap.mpr ⟨X.env, List.mem_cons_self, by rw [hf, z]⟩)
    have nF : a ∉ X.fs := fun hm => by
      obtain ⟨e, he, q⟩ := List.mem_filterMap.mp hm
      exact nfr (List.mem_filterMap.mpr ⟨e, List.mem_cons_of_mem _ he, q⟩)
    have n0 : X.s_0.heap.get? a = none := by
      cases q : X.s_0.heap.get? a with
      | none => rfl
      | some o =>
        obtain ⟨o', e'⟩ := J.base.there a o q (by rw [hex]; intro z; cases z)
        exact absurd e' (nI o')
    have npin : ∀ p ∈ X.pn ++ pins, p.1 ≠ a := fun p hp z => by
      have := (J.pin p hp).1
      rw [z] at this
      exact nI _ this
    have S3 := J3.suite he3 hd3 na nL nF
    refine wpAny_handleBy_cons (codeAny_handlers_test ?_) (by intro q; cases q)
    have LT : PySem.W.Looks (model X.prog X.w) h3 (typeOf (.ref a)) cls := fun A Q E s k q => wpAny_typeOf_ref (k _ _ he3) (by rw [hz3.1]; exact q)
    have LM := PySem.W.exm_one (M := model X.prog X.w) (J3.kIn) LT hb1
    have test : ∀ {Q : Value → Shared → Prop} {E : Value → Shared → Prop}, Q c { s' with heap := h3 } → wpAny (model X.prog X.w) (X.A.mark (some (.ref a))) (eval (.Name x np) X.env) Q E { s' with heap := h3 } := fun {Q E} q => by
      obtain ⟨hg, hdbg, hm | ⟨hm, hv, hnn⟩⟩ := hc
      · exact ld_glob (X := X.suite a ((a, oe3) :: (X.pn ++ pins))) S3 hg hm q hdbg
      · exact ld_blt (X := X.suite a ((a, oe3) :: (X.pn ++ pins))) S3 hg hm hv q hnn hdbg
    refine test (LM.here ?_)
    refine codeAny_handlers_suite_as ?_
    refine HandSPX.lands_againZ fl3 fun h4 fl4 up4 => ?_
    have J4 : Inv X pins σ' H' { s' with heap := h4 } := J.landed nb fl4.1 ((up.trans up3).trans up4) os ag
    obtain ⟨oe4, vs4, he4, hz4, hd4⟩ := fl4.there
    have T4 := Inv.told J4 he4 hz4 hd4 na n0 nL npin
    have S4 : Inv (suiteX X a (X.pn ++ pins)) [] σ' (upd H' a (excT a cls d)) { s' with heap := h4 } :=
      ⟨T4.ok.suite a _, T4.os, T4.bare, T4.base, T4.loc, T4.cell, T4.free, T4.freeC, fun p hp => T4.pin p (by rw [List.append_nil] at hp; exact hp), T4.hok, T4.len⟩
    refine store_ok (X := suiteX X a (X.pn ++ pins)) (v := .ref a) S4 hN hi (.inl hln) rfl (fun s5 S5 => ?_) (.inr hln)
    have back : ∀ {σ6 : L2.St} {H6 : Hp} {s6 : Shared}, Inv (suiteX X a (X.pn ++ pins)) [] σ6 H6 s6 → Inv X pins σ6 H6 s6 := fun S => ⟨ok, S.os, S.bare, S.base, S.loc, S.cell, S.free, S.freeC, fun p hp => S.pin p (List.mem_append_left _ hp), S.hok, S.len⟩
    refine wpAny_mono ((hsu a (X.pn ++ pins)).run [] s5 _ _ _ S5 (hyes a na J.len)) (fun f s6 hsp => ?_) fun _ _ z => False.elim z
    have end_ : ∀ {σ6 : L2.St} {H6 : Hp} {Q : Shared → Prop}, Inv (suiteX X a (X.pn ++ pins)) [] σ6 H6 s6 → (∀ s7, Inv X pins (σ6.set i none) H6 s7 → Q s7) →
        wpAny (model X.prog X.w) X.A (do bindName X.env n .none; unbindBehindTheSuite X.env n pos') (fun _ s7 => Q s7) X.xe s6 := fun {σ6 H6 Q} S6 hq => gone_ok (back S6) hN hi hln hq
    cases f with
    | next =>
      obtain ⟨σ6, H6, S6, q6⟩ := hsp
      exact end_ S6 fun s7 J7 => ⟨_, _, J7, q6⟩
    | brk =>
      obtain ⟨σ6, H6, S6, q6⟩ := hsp
      exact end_ S6 fun s7 J7 => ⟨_, _, J7, q6⟩
    | cont =>
      obtain ⟨σ6, H6, S6, q6⟩ := hsp
      exact end_ S6 fun s7 J7 => ⟨_, _, J7, q6⟩
    | ret u =>
      obtain ⟨v6, σ6, H6, S6, r6, q6⟩ := hsp
      exact end_ S6 fun s7 J7 => ⟨_, _, _, J7, r6, q6⟩
end
end Bx

-- needs tryX
-- imports HandS.TryMany HandS.HotCalls HandS.Defaults
/-! a def called where an exception may be handled: it neither raises nor leans on the calm -/
namespace Bx
open PySem PySem.Spec PyProof.Rows L2 L2H
/-- the context of its body -/
def cxA (P : Program) (w : World) (K : PySem.W.Frag) (mg : Str → Option Value) (base : Heap) (N : List Str) (qual : Str) (scope : Scope) (f : Addr) (cd : Value) (A : Around) (outer : List PySem.Env) (s : Shared) (H : Hp) : Cx :=
  { cxOf CX0 P w K mg base N qual scope f cd A outer s H E0 with calm := false, xe := fun _ _ => False }
structure FnA (P : Program) (w : World) (K : PySem.W.Frag) (mg : Str → Option Value) (base : Heap) (k : Nat) (f : Addr) (fd : FuncData) (ps : List Str) (sp : Sp) : Prop where
  len : ∀ vs H Q E, sp vs H Q E → vs.length = ps.length
  run : ∀ (A : Around) (outer : List PySem.Env) (s : Shared) (H : Hp) (args : Args) (us : List Value) (vs : List V) (Q : VK) (E : XK), RoomH k A → Env0 P w K mg base A outer s H → BindsTo s fd args (ps.zip us) → Vals vs us → sp vs H Q E →
    codeAny (model P w) A (.call (.ref f) args) (fun r s' => ∃ u, r = .ok (.ret u) ∧ CE outer P w H s Q u s') s
theorem inv_startA {P : Program} {w : World} {K : PySem.W.Frag} {mg : Str → Option Value} {base : Heap} {N ps : List Str} {qual : Str} {scope : Scope} {f : Addr} {cd : Value} {A : Around} {outer : List PySem.Env} {s s1 : Shared} {H : Hp} {us : List Value} {vs : List V}
    (S : FnScope N ps scope) (e0 : Env0 P w K mg base A outer s H) (hl : vs.length = ps.length) (r : Vals vs us)
    (x : InCallC s s.heap.objs.size (bindL (envOfC qual scope s.heap.objs.size f cd).kindOf (ps.zip us) fun _ => none) (cellsFrom (s.heap.objs.size + 1) scope.names []) (bindC (envOfC qual scope s.heap.objs.size f cd).kindOf (ps.zip us) fun _ => none) s1) :
    Inv (cxA P w K mg base N qual scope f cd A outer s H) [] (L2.start N vs) H s1 := by
  have hpl : ps.length ≤ N.length := by have := congrArg List.length S.pre; rw [List.length_take] at this; omega
  obtain ⟨h1, tk, rfl, hk⟩ := x.done
  have noA : ∀ b : Addr, b ∉ (cxA P w K mg base N qual scope f cd A outer s H).ex := fun b z => absurd (show b ∈ ([] : List Addr) from z) (by simp)
  refine ⟨⟨e0.mod, S.kind, rfl, rfl, Nat.le_refl _, fun y z c h1 h2 => ?_, fun y hy => ?_, fun y c _ h => ?_, (fun z => Bool.noConfusion (show false = true from z)), Around.frames_deeper e0.frames, .inr ⟨rfl, rfl⟩, fun b z => absurd z (noA b), e0.bs, e0.bsz, fun b _ _ => noA b, fun b z => absurd z (noA b), e0.funs, e0.frf⟩,
    rfl, e0.bare, Un.kept hk, ⟨_, x.toInCall.ns, fun i y v h1 h2 h3 => ?_⟩, fun y c h => ⟨_, x.cell y c h⟩, e0.hok.fresh (Nat.le_refl _), fun y c h => ?_, fun q hq => absurd (show q ∈ ([] : List (Addr × Obj)) ++ [] from hq) (by simp), e0.hok.kept hk, ?_⟩
  · exact name_of_addr x.apart (PySem.mem_of_lookup h1) (PySem.mem_of_lookup h2)
  · have hy : scope.names.lookup y = some .cell ∨ scope.names.lookup y = some .free := hy
    rcases hy with hy | hy
    · exact cell_has hy
    · exact absurd rfl (S.nofree _ (PySem.mem_of_lookup hy))
  · exact Nat.le_of_lt (x.above y c (PySem.mem_of_lookup h))
  · have hi : i < vs.length := by
      unfold L2.start at h2
      by_cases hi : i < vs.length
      · exact hi
      · rw [List.getElem?_append_right (by simpa using hi)] at h2
        rw [List.getElem?_replicate] at h2
        split at h2 <;> cases h2
    have ha : vs[i]? = some v := by
      unfold L2.start at h2
      rw [List.getElem?_append_left (by simpa using hi), List.getElem?_map] at h2
      cases e : vs[i]? with
      | none => rw [e] at h2; cases h2
      | some a => rw [e] at h2; cases h2; rfl
    obtain ⟨u, hu, rv⟩ := r.get ha
    have hp : ps[i]? = some y := by
      rw [← S.pre, List.getElem?_take_of_lt (by omega)]; exact h1
    have ndP : ps.Nodup := by rw [← S.pre]; exact S.nd.sublist (List.take_sublist _ _)
    refine ⟨u, rv, ?_⟩
    rcases S.par y (List.mem_of_getElem? hp) with k | k
    · exact .inl ⟨k, bindL_get ndP hp hu k⟩
    · obtain ⟨c, e⟩ := cell_has (n := s.heap.objs.size + 1) k
      refine .inr ⟨.inl k, c, e, ?_⟩
      have q := x.cell y c e
      rw [bindC_get ndP hp hu (by show scope.names.lookup y ≠ _; rw [k]; decide)] at q
      exact q
  · exact e0.hok.fresh (Nat.le_of_lt (x.above y c (PySem.mem_of_lookup h)))
  · unfold L2.start
    show _ = N.length
    rw [List.length_append, List.length_map, List.length_replicate]
    omega
theorem fn_ofA {P : Program} {w : World} {K : PySem.W.Frag} {mg : Str → Option Value} {base : Heap} {k : Nat} {f : Addr} {name qual : Str} {params : Arguments} {body : List Stmt} {scope : Scope} {dV kV doc pm cdv ct oc : Value} {an od : Option Addr}
    {osl : Array (Option Value)} {N ps : List Str} {sp : Sp} (lk : K.lookup f = some ⟨oc, od, .func (PySem.W.fnOf name qual params body scope dV kV doc pm an cdv ct), osl⟩) (hcd : PySem.W.codeIn K cdv qual = true) (S : FnScope N ps scope)
    (len : ∀ vs H Q E, sp vs H Q E → vs.length = ps.length)
    (hbody : ∀ (A : Around) (outer : List PySem.Env) (s : Shared) (H : Hp) (vs : List V) (Q : VK) (E : XK), RoomH k (A.deeper (envOfC qual scope s.heap.objs.size f cdv)) → sp vs H Q E →
      ∃ t, PSs (cxA P w K mg base N qual scope f cdv A outer s H) body t ∧ t { nx := fun _ H' => Q .non H', rt := Q } (L2.start N vs) H) :
    FnA P w K mg base (k + 1) f (PySem.W.fnOf name qual params body scope dV kV doc pm an cdv ct) ps sp := by
  refine ⟨len, fun A outer s H args us vs Q E hr e0 hb r hsp => ?_⟩
  have hl := len _ _ _ _ hsp
  have KX : K.In s.heap := e0.mod.kin.keeps fun b o e => (e0.bs b o e).1
  have lim : s.heap.NoLimit := e0.mod.nolimit.keeps fun b o e => (e0.bs b o e).1
  have hkind : ∀ y ∈ ps.zip us, scope.names.lookup y.1 = some .local ∨ (scope.names.lookup y.1 = some .cell ∧ ((cellsFrom (s.heap.objs.size + 1) scope.names []).lookup y.1).isSome = true) := fun ⟨n, v⟩ hy => by
    rcases S.par n (List.of_mem_zip hy).1 with q | q
    · exact .inl q
    · exact .inr ⟨q, PySem.W.cellsFrom_some _ _ _ (.inl q)⟩
  refine codeAny_call_function hr.depth (KX _ _ lk) rfl S.co S.gen rfl (PySem.W.codeRec_of KX hcd) (hb _ _ _ _ ?_)
  refine wpAny_newFunctionEnv_cells S.kind hkind fun env he s1 x => ?_
  subst he
  refine ⟨lim.keeps x.toInCall.keep, codeAny_func ?_⟩
  obtain ⟨t, ht, hq⟩ := hbody A outer s H vs Q E (hr.deeper _) hsp
  have I : Inv (cxA P w K mg base N qual scope f cdv A outer s H) [] (L2.start N vs) H s1 := inv_startA S e0 hl r x
  refine wpAny_mono (ht.run [] s1 (L2.start N vs) H _ I hq) (fun fl s' hs => ?_) fun e s' hs => False.elim hs
  have fin : ∀ {σ' : L2.St} {H' : Hp} {v : V} {u : Value}, Inv (cxA P w K mg base N qual scope f cdv A outer s H) [] σ' H' s' → L2.RelV v u → Q v H' → CE outer P w H s Q u s' :=
    fun {σ' H' v u} J rv q => ⟨v, H', J.os, J.bare, J.base, J.hok, rv, q⟩
  cases fl with
  | ret u =>
    obtain ⟨v, σ', H', J, rv, q⟩ := hs
    exact ⟨_, rfl, fin J rv q⟩
  | next =>
    obtain ⟨σ', H', J, q⟩ := hs
    exact ⟨_, rfl, fin (v := V.non) (u := Value.none) J rfl q⟩
  | brk =>
    obtain ⟨_, _, _, q⟩ := hs
    exact False.elim q
  | cont =>
    obtain ⟨_, _, _, q⟩ := hs
    exact False.elim q
theorem _root_.L2.FunD.okA {P : Program} {w : World} {K : PySem.W.Frag} {mg : Str → Option Value} {base : Heap} {x qual : Str} {params : Arguments} {body : List Stmt} {scope : Scope} {dvs : List V} {kws : List (Str × V)} {f : Addr} {fd : FuncData} {N ps : List Str} {k : Nat} {sp : Sp} (F : FunD K x qual params body scope dvs kws f fd) (S : FnScope N ps scope) (len : ∀ vs H Q E, sp vs H Q E → vs.length = ps.length)
    (hbody : ∀ (cdv : Value) (A : Around) (outer : List PySem.Env) (s : Shared) (H : Hp) (vs : List V) (Q : VK) (E : XK), RoomH k (A.deeper (envOfC qual scope s.heap.objs.size f cdv)) → sp vs H Q E →
      ∃ t, PSs (cxA P w K mg base N qual scope f cdv A outer s H) body t ∧ t { nx := fun _ H' => Q .non H', rt := Q } (L2.start N vs) H) : FnA P w K mg base (k + 1) f fd ps sp := by
  obtain ⟨oc, od, dV, kV, doc, pm, an, cdv, ct, osl, rfl, lk, hcd, _, _⟩ := F.ex
  exact fn_ofA lk hcd S len fun A outer s H vs Q E hr hsp => hbody cdv A outer s H vs Q E hr hsp
/-- a def under the module's name x, called anywhere -/
def GoodA (P : Program) (w : World) (K : PySem.W.Frag) (mg : Str → Option Value) (base : Heap) (k : Nat) (x : Str) (ps : List Str) (sp : Sp) : Prop :=
  ∃ fd, FnA P w K mg base k (He.ga K x) fd ps sp ∧ Binds K fd ps [] ∧ PySem.W.keepIn K (.ref (He.ga K x)) = true ∧ mg x = some (.ref (He.ga K x))
section
variable {X : Cx} {k : Nat} {ps : List Str} {sp : Sp} {x : Str} {q pos : Pos} {e : Expr} {es : List Expr} {t : TA}
theorem pe_GA (G : GoodA X.prog X.w X.K X.mg X.base k x ps sp) (hr : RoomH k X.A) (hg : Gl X x)
    (ha : PA X (e :: es) t) (hdb : (x == ("__debug__" : Str)) = false := by decide) (he : starEach (e :: es) X.env = (false, eval e X.env) :: starEach es X.env := by rfl) (hpl : (backTo pos (starEach es X.env)).any (·.1) = false := by rfl) :
    PE X (.Call (.Name x q) (e :: es) [] pos) (tCall sp [] E0 t) := by
  obtain ⟨fd, F, hb, hk, hm⟩ := G
  refine ⟨fun pins s σ H Q I h => ?_⟩
  refine wpAny_Call_Name_kw (ld_glob I hg hm ?_ hdb)
  refine PySem.W.callWith_K (h₀ := X.base) I.ok.mod.kin hk (thn (ha.run pos pins s σ H _ I h) fun us s1 ⟨vs, H1, I1, r, q⟩ => ⟨I1.kIn, ?_⟩) he hpl
  have q : sp (vs ++ []) H1 Q E0 := q
  rw [List.append_nil] at q
  have hl : us.length = ps.length := by rw [← r.length]; exact F.len _ _ _ _ q
  have b := hb s1 us I1.kIn (by rw [List.append_nil]; exact hl)
  rw [List.append_nil] at b
  refine wpAny_call (codeAny_mono (F.run X.A X.stack s1 H1 ⟨us, []⟩ us vs Q E0 hr I1.env0 b r q) fun r s' hq => ?_)
  obtain ⟨u, rfl, hq⟩ := hq
  exact I1.after hq
end
end Bx

-- needs fnA hookW
-- imports HandS.Lambda
/-! _law_try: a lambda called within try .. except PathError as e: (e.tag, _law_field(e)) -/
namespace Bx
open PySem PySem.Spec PyProof.Rows L2 LamX L2H
/-- the field that a tag names -/
def fldOf (tag : Str) : Option Str :=
  if inV (.str tag) [.str "InvalidPair", .str "InvalidCount"] then some "given" else
  if inV (.str tag) [.str "InvalidName", .str "DuplicateName", .str "InUse", .str "WrongKind", .str "Ring", .str "UnknownName", .str "Ended"] then some "name" else
  if inV (.str tag) [.str "InvalidLimit", .str "CapacityExceeded", .str "TooLong"] then some "limit" else
  if decide (V.str tag = V.str "InvalidProgram") then some "line" else
  if decide (V.str tag = V.str "InvalidCommand") then some "word" else
  if decide (V.str tag = V.str "InvalidItem") then some "place" else
  if decide (V.str tag = V.str "Heavy") then some "most" else
  if decide (V.str tag = V.str "ParseError") then some "row" else none
/-- what _law_field says of an exception with this tag and these fields -/
def FldOk (K : PySem.W.Frag) (C : Addr) (fs : List (Str × V)) (tag : Str) (v : V) : Prop := match fldOf tag with
  | none => v = .non
  | some f => PySem.W.findIn K (.ref C) f = some none ∧ fs.lookup f = some v
def sp_field (K : PySem.W.Frag) : Sp := fun vs H Q _ => ∃ (a C dd : Addr) (fs : List (Str × V)) (tag : Str) (v : V), vs = [.ref a] ∧ H a = some (excT a (.ref C) (some dd)) ∧ XfC K C ∧ PySem.W.findIn K (.ref C) "tag" = some none ∧ H dd = some (.xd fs) ∧
  fs.lookup ("tag" : Str) = some (.str tag) ∧ FldOk K C fs tag v ∧ ∀ H', Same H H' → Q v H'
/-- the exception that _law_try tells -/
def ETry (K : PySem.W.Frag) (c : Addr) (Q : VK) : XK := fun cls d H' => ∃ (C dd : Addr) (fs : List (Str × V)) (tag : Str) (v : V), cls = .ref C ∧ d = some dd ∧ PySem.W.exmOne K (.ref C) (.ref c) = some true ∧ H' dd = some (.xd fs) ∧ XfC K C ∧
  PySem.W.findIn K (.ref C) "tag" = some none ∧ fs.lookup ("tag" : Str) = some (.str tag) ∧ FldOk K C fs tag v ∧ ∀ H1, Same H' H1 → ∀ p, H1 p = none → Q (.ref p) (upd H1 p (.tup [.str tag, v]))
/-- _law_try of a lambda that reads tl -/
def TTry (K : PySem.W.Frag) (c : Addr) : (XK → Hp → VK → Prop) → Hp → VK → Prop := fun tl H Q => tl (ETry K c Q) H fun v H' => ([.str "value", v] : List V).length ≤ sizeLine ∧ ∀ p, H' p = none → Q (.ref p) (upd H' p (.tup [.str "value", v]))
theorem try_gives {X : Cx} {k kf : Nat} {q : Str} {sg : Scope} {g c : Addr} {cdg : Value} {j j2 j3 : Nat} {p1 p2 p3 p4 p5 p6 p7 p8 p9 pa pb pc pd pe pf : Pos} {hds : List ExceptHandler}
    (G : GoodA X.prog X.w X.K X.mg X.base kf "_law_field" ["e"] (sp_field X.K)) (hr : Room (k + 1) X.A) (hk : kf ≤ k)
    (hln : sg.names.lookup ("e" : Str) = some .local) (hge : sg.names.lookup ("PathError" : Str) = some .globalImplicit) (hme : X.mg "PathError" = some (.ref c)) (hgf : sg.names.lookup ("_law_field" : Str) = some .globalImplicit) :
    GivesTo X ["ask", "e"] "_law_try" sg g cdg [.Try [.Return (some (.Tuple [.Constant (.str "value") j p1, .Call (.Name "ask" p2) [] [] p3] j2 p4)) p5]
      (.ExceptHandler (some (.Name "PathError" p6)) (some "e") [.Return (some (.Tuple [.Attribute (.Name "e" p7) "tag" p8, .Call (.Name "_law_field" p9) [.Name "e" pa] [] pb] j3 pc)) pd] pe :: hds) [] [] pf] "ask" q (TTry X.K c) := by
  intro fl c' s H Q tl act hc h
  have hr1 : Room k (X.A.deeper (envOfC "_law_try" sg s.heap.objs.size g cdg)) := hr.deeper _
  let Y : Cx := (cxOf CX0 X.prog X.w X.K X.mg X.base ["ask", "e"] "_law_try" sg g cdg X.A X.stack s H E0).nox
  have nmE : Names Y "PathError" (.ref c) := ⟨hge, by decide, .inl hme⟩
  have ve : ∀ ax pn, PE (suiteX Y ax pn) (.Name "e" p7) (tVar 1) := fun ax pn => pe_var (i := 1) (x := "e") rfl (.inl hln) (by decide) (by decide)
  have vt : ∀ ax pn, PE (suiteX Y ax pn) (.Attribute (.Name "e" p7) "tag" p8) (tXT X.K "tag" (tVar 1)) := fun ax pn => pe_xT (n := "tag") (ve ax pn) rfl
  have nd2 : Y.N.Nodup := show (["ask", "e"] : List Str).Nodup by decide
  have ve2 : ∀ ax pn, PE (suiteX Y ax pn) (.Name "e" pa) (tVar 1) := fun ax pn => pe_var (i := 1) (x := "e") rfl (.inl hln) (by decide) (by decide)
  refine ⟨_, pss_one (ps_try_as1 (X := Y) (c := .ref c) (i := 1) (x := "PathError") (n := "e")
      (tb := fun W D σ H => ∃ Ech : XK, (∀ cls d σ' H', Ech cls d H' → W cls d σ' H') ∧ σ[0]? = some (some (.ref fl)) ∧ H c' = some (CodeO c' q) ∧ tl Ech H (fun v H1 => ([.str "value", v] : List V).length ≤ sizeLine ∧ ∀ p, H1 p = none → D.rt (.ref p) (upd H1 p (.tup [.str "value", v]))))
      rfl rfl rfl nd2 rfl hln nmE (fun W pn xe tk _ => ?_) fun ax pn => pss_one (ps_ret (pe_tup (pa_cons (X := suiteX Y ax pn) (vt ax pn) (pa_cons (pe_GA (k := kf) G (X := suiteX Y ax pn) ⟨(roomH_of hr1 |>.mono hk).dp, (roomH_of hr1 |>.mono hk).un⟩ hgf (pa_cons (ve2 ax pn) pa_nil)) pa_nil))))), ?_⟩
  · refine ⟨fun pins s' σ H' D I h' => ?_⟩
    obtain ⟨Ech, hW, h1, h2, h3⟩ := h'
    have hp := act W pn xe Ech p2 p3 tk hW
    have hq := pss_one (ps_ret (pos := p5) (pe_tup (x1 := j2) (pos := p4) (pa_cons (pe_str (x := "value") (j := j) (pos := p1)) (pa_cons hp pa_nil))))
    exact hq.run pins s' σ H' D I ⟨h1, h2, h3⟩
  · refine ⟨ETry X.K c Q, fun cls d σ' H' x => ?_, rfl, hc, h⟩
    obtain ⟨C, dd, fs, tag, v, rfl, rfl, ex, hd, T, ht, l, fo, hq⟩ := x
    refine ⟨ex, fun ax na hl => ?_⟩
    have hs1 : (List.set σ' 1 (some (V.ref ax)))[1]? = some (some (V.ref ax)) := by
      rw [List.getElem?_set_self]
      have hl : σ'.length = 2 := hl
      omega
    have e1 : Same H' (upd H' ax (excT ax (.ref C) (some dd))) := same_new na
    have ea : upd H' ax (excT ax (.ref C) (some dd)) ax = some (excT ax (.ref C) (some dd)) := upd_same
    have ed : upd H' ax (excT ax (.ref C) (some dd)) dd = some (.xd fs) := e1 _ _ hd
    refine ⟨.ref ax, hs1, ax, C, dd, fs, .str tag, rfl, ea, T, ht, ed, l, .ref ax, hs1, ?_⟩
    refine ⟨ax, C, dd, fs, tag, v, rfl, ea, T, ht, ed, l, fo, fun H2 e2 => ⟨by show 2 ≤ sizeLine; decide, fun p hp => ?_⟩⟩
    exact hq H2 (e1.trans e2) p hp
/-- _law_try, as the caller sees it -/
def GoodT (P : Program) (w : World) (K : PySem.W.Frag) (mg : Str → Option Value) (base : Heap) (k : Nat) (c : Addr) : Prop :=
  ∃ (oc dV kV doc pm cdv ct : Value) (an od : Option Addr) (osl : Array (Option Value)) (pg : Arguments) (bg : List Stmt) (sg : Scope),
    K.lookup (He.ga K "_law_try") = some ⟨oc, od, .func (PySem.W.fnOf "_law_try" "_law_try" pg bg sg dV kV doc pm an cdv ct), osl⟩ ∧ PySem.W.codeIn K cdv "_law_try" = true ∧
    L2.Binds K (PySem.W.fnOf "_law_try" "_law_try" pg bg sg dV kV doc pm an cdv ct) ["ask"] [] ∧ FnScope ["ask", "e"] ["ask"] sg ∧ PySem.W.keepIn K (.ref (He.ga K "_law_try")) = true ∧ mg "_law_try" = some (.ref (He.ga K "_law_try")) ∧
    ∀ (X : Cx) (q : Str), X.prog = P → X.w = w → X.K = K → X.mg = mg → X.base = base → Room (k + 1) X.A → GivesTo X ["ask", "e"] "_law_try" sg (He.ga K "_law_try") cdv bg "ask" q (TTry K c)
section
variable {X : Cx} {k j : Nat} {c cd P : Addr} {p lpos pos : Pos} {params : Arguments} {body : Expr} {scope : Scope} {t : XK → TE}
theorem pe_T (G : GoodT X.prog X.w X.K X.mg X.base k c) (hg : Gl X "_law_try") (TB : TabB X.base X.mg cd P) (hcode : X.env.code = .ref cd) (hr : Room (k + 1) X.A) (hj : j + 1 ≤ k) (L : LamS X.env.scope scope) (hdef : defaultsOf params X.env = ([], []))
    (hbind : ∀ (q : Str) (cl : List (Str × Addr)) (pm cv ctv : Value), bindArgs (PySem.W.kla_fn "<lambda>" q params body scope cl pm cv ctv) ⟨[], []⟩ = pure [])
    (hbody : ∀ (A : Around) (outer : List PySem.Env) (s : Shared) (H : Hp) (E : XK) (f c' : Addr), Room j (A.deeper (lamEnv X scope s.heap.objs.size f c')) → PE (lamCx X A outer s H E scope f c') body (t E)) :
    PE X (.Call (.Name "_law_try" p) [.Lambda params body scope lpos] [] pos) (tLam [(P, X.env.qual ++ "<lambda>")] (TTry X.K c) t) := by
  obtain ⟨oc, dV, kV, doc, pm, cdv, ct, an, od, osl, pg, bg, sg, lk, hcg, hb, S, hk, hm, hG⟩ := G
  have hva : Vis sg "ask" := by
    rcases S.par "ask" (by decide) with k | k
    · exact .inl k
    · exact .inr (.inl k)
  exact pe_lamcall hg hm hk lk hcg hb S rfl hva (hG X _ rfl rfl rfl rfl rfl hr) TB hcode (List.mem_singleton.mpr rfl) (fun q hq _ => by rw [List.mem_singleton.mp hq]) (hr.mono (by omega)) L hdef hbind hbody
end
theorem good_try {P : Program} {w : World} {K : PySem.W.Frag} {mg : Str → Option Value} {base : Heap} {k : Nat} {c : Addr} {pg : Arguments} {bg : List Stmt} {sg : Scope} {fd : FuncData} (F : FunD K "_law_try" "_law_try" pg bg sg [] [] (He.ga K "_law_try") fd) (hb : L2.Binds K fd ["ask"] []) (S : FnScope ["ask", "e"] ["ask"] sg) (hm : mg "_law_try" = some (.ref (He.ga K "_law_try")))
    (hG : ∀ (X : Cx) (q : Str) (cdv : Value), X.prog = P → X.w = w → X.K = K → X.mg = mg → X.base = base → Room (k + 1) X.A → GivesTo X ["ask", "e"] "_law_try" sg (He.ga K "_law_try") cdv bg "ask" q (TTry K c)) : GoodT P w K mg base k c := by
  have hk := F.kp
  obtain ⟨oc, od, dV, kV, doc, pm, an, cdv, ct, osl, rfl, lk, hcd, _, _⟩ := F.ex
  exact ⟨oc, dV, kV, doc, pm, cdv, ct, an, od, osl, pg, bg, sg, lk, hcd, hb, S, hk, hm, fun X q h1 h2 h3 h4 h5 hr => hG X q cdv h1 h2 h3 h4 h5 hr⟩
theorem passF {X : Cx} : Passes (L2.CX X.prog X.w) X (fun _ _ _ => False) := passes_call takes0 fun _ _ _ _ h => h
end Bx

-- needs tables least
/-! == of lists and tuples of plain things; the least modulus -/
namespace Bx
open PySem PySem.Spec PyProof.Rows L2
theorem eqvAll_map {α : Type} [DecidableEq α] {f : α → PyData} (h : ∀ x y, PyData.eqv (f x) (f y) = decide (x = y)) : ∀ l m : List α, PyData.eqvAll (l.map f) (m.map f) = decide (l = m)
  | [], [] => by simp [PyData.eqvAll]
  | [], _ :: _ => by simp [PyData.eqvAll]
  | _ :: _, [] => by simp [PyData.eqvAll]
  | x :: l, y :: m => by
    have ih := eqvAll_map h l m
    rw [List.map_cons, List.map_cons]
    simp only [PyData.eqvAll, h, ih]
    by_cases e : x = y
    · by_cases e2 : l = m
      · simp [e, e2]
      · simp [e, e2]
    · simp [e]
theorem eqv_intN (x y : Nat) : PyData.eqv (.int (x : Int)) (.int (y : Int)) = decide (x = y) := by
  rw [PyData.eqv, Bool.eq_iff_iff, beq_iff_eq, decide_eq_true_iff]
  exact Int.ofNat_inj
theorem eqv_boolB (x y : Bool) : PyData.eqv (.bool x) (.bool y) = decide (x = y) := by
  cases x <;> cases y <;> simp [PyData.eqv]
theorem canLay_m {α : Type} {f : α → PyData} (h : ∀ x, (f x).canLay0 = true) : ∀ l : List α, PyData.canLayAll0 (l.map f) = true
  | [] => by rw [List.map_nil, PyData.canLayAll0]
  | x :: l => by rw [List.map_cons, PyData.canLayAll0, h x, canLay_m h l]; rfl
theorem shp_list {α : Type} {f : α → PyData} {n : Nat} (h : ∀ x, (f x).canLay0 = true) (d : ∀ x, (f x).depth ≤ n) (hn : n ≤ 63) (l : List α) : SeqAt.shaped (.list (l.map f)) = true := by
  unfold SeqAt.shaped
  have h2 : (PyData.list (l.map f)).canLay0 = true := by
    rw [PyData.canLay0]
    exact canLay_m h l
  have h3 := depthAll_map d l
  have h4 : (PyData.list (l.map f)).depth ≤ 64 := by
    show PyData.depthAll (l.map f) + 1 ≤ 64
    omega
  rw [h2, decide_eq_true h4]
  rfl
theorem shp_tup {α : Type} {f : α → PyData} {n : Nat} (h : ∀ x, (f x).canLay0 = true) (d : ∀ x, (f x).depth ≤ n) (hn : n ≤ 63) (l : List α) : SeqAt.shaped (.tuple (l.map f)) = true := by
  unfold SeqAt.shaped
  have h2 : (PyData.tuple (l.map f)).canLay0 = true := by
    rw [PyData.canLay0]
    exact canLay_m h l
  have h3 := depthAll_map d l
  have h4 : (PyData.tuple (l.map f)).depth ≤ 64 := by
    show PyData.depthAll (l.map f) + 1 ≤ 64
    omega
  rw [h2, decide_eq_true h4]
  rfl
theorem shp_ints (l : List Nat) : SeqAt.shaped (.list (l.map fun n : Nat => PyData.int (n : Int))) = true := shp_list (n := 0) (fun _ => rfl) (fun _ => Nat.le_refl _) (by decide) l
/-- part[:s] * k -/
def repL {α : Type} (l : List α) (s k : Nat) : List α := (List.replicate k (l.take s)).flatten
theorem repL_map {α β : Type} (f : α → β) (l : List α) (s k : Nat) : repL (l.map f) s k = (repL l s k).map f := by
  unfold repL
  rw [List.map_flatten, List.map_replicate, List.map_take]
theorem rep_get {α : Type} {x : List α} {s : Nat} (hs : x.length = s) (h0 : 0 < s) : ∀ (k i : Nat), i < k * s → (List.replicate k x).flatten[i]? = x[i % s]?
  | 0, i, h => by omega
  | k + 1, i, h => by
    rw [List.replicate_succ, List.flatten_cons]
    have hk : (k + 1) * s = k * s + s := Nat.succ_mul k s
    by_cases hi : i < s
    · rw [List.getElem?_append_left (by omega), Nat.mod_eq_of_lt hi]
    · have e : i % s = (i - s) % s := Nat.mod_eq_sub_mod (by omega)
      rw [List.getElem?_append_right (by omega), hs, rep_get hs h0 k (i - s) (by omega), e]
theorem repL_iff {α : Type} {l : List α} {s k : Nat} (h0 : 0 < s) (hl : l.length = k * s) (hk : 0 < k) : l = repL l s k ↔ perd l s := by
  have hsl : (l.take s).length = s := by
    rw [List.length_take, hl]
    have : s ≤ k * s := Nat.le_mul_of_pos_left _ hk
    omega
  have hlen : (repL l s k).length = k * s := by
    unfold repL
    rw [List.length_flatten, List.map_replicate, List.sum_replicate_nat, hsl]
  have hg : ∀ i, i < k * s → (repL l s k)[i]? = l[i % s]? := fun i hi => by
    unfold repL
    rw [rep_get hsl h0 k i hi, List.getElem?_take, if_pos (Nat.mod_lt _ h0)]
  constructor
  · intro e i hi
    rw [hl] at hi
    rw [← hg i hi, ← e]
  · intro p
    apply List.ext_getElem?
    intro i
    by_cases hi : i < k * s
    · rw [hg i hi, p i (by rw [hl]; exact hi)]
    · rw [List.getElem?_eq_none (by omega), List.getElem?_eq_none (by omega)]
/-- the size fits all parts -/
def fitD (dss : List (List PyData)) (m s : Nat) : Bool := decide (m % s = 0) && dss.all fun ds => PyData.eqv (.tuple ds) (.tuple (repL ds s (m / s)))
def leastD (dss : List (List PyData)) (m : Nat) : Nat := (mods.find? (fitD dss m)).getD m
def partsD (t : Tb) (f : Nat → Nat) : List (List PyData) := [t.flats.map .bool, t.steeps.map .bool, (t.starts.map f).map fun n : Nat => PyData.int (n : Int)]
theorem fitD_iff {t : Tb} {f : Nat → Nat} {s : Nat} (ok : Tok t) (h0 : 0 < s) : fitD (partsD t f) t.m s = true ↔ Fits t f s := by
  have m0 := ok.m0.1
  unfold fitD
  rw [Bool.and_eq_true, decide_eq_true_iff]
  by_cases hd : t.m % s = 0
  rotate_left
  · constructor
    · intro h; exact absurd h.1 hd
    · intro h; exact absurd (Nat.mod_eq_zero_of_dvd h.dv) hd
  have dv : s ∣ t.m := Nat.dvd_of_mod_eq_zero hd
  have hk : 0 < t.m / s := Nat.div_pos (Nat.le_of_dvd m0 dv) h0
  have hm : t.m = t.m / s * s := (Nat.div_mul_cancel dv).symm
  have e : ∀ {α : Type} [DecidableEq α] {g : α → PyData} (_ : ∀ x y, PyData.eqv (g x) (g y) = decide (x = y)) (l : List α), l.length = t.m → (PyData.eqv (.tuple (l.map g)) (.tuple (repL (l.map g) s (t.m / s))) = true ↔ perd l s) := by
    intro α _ g hg l hl
    rw [repL_map, PyData.eqv, eqvAll_map hg, decide_eq_true_iff]
    exact repL_iff h0 (by rw [hl]; exact hm) hk
  unfold partsD
  simp only [List.all_cons, List.all_nil, Bool.and_true, Bool.and_eq_true]
  rw [e eqv_boolB _ ok.fl, e eqv_boolB _ ok.sl, e eqv_intN _ (by rw [List.length_map, ok.tl])]
  exact ⟨fun h => ⟨dv, h.2.1, h.2.2.1, h.2.2.2⟩, fun h => ⟨hd, h.fl, h.sl, h.bl⟩⟩
theorem leastD_sz {t : Tb} {f : Nat → Nat} (ok : Tok t) : Sz t f (leastD (partsD t f) t.m) := by
  have hp : ∀ s ∈ mods, 0 < s := fun s hs => (mods_pos hs).1
  have hmm : t.m ∈ mods := by
    unfold mods
    rcases ok.md with e | e | e | e <;> rw [e] <;> decide
  have hself : Fits t f t.m := ⟨Nat.dvd_refl _, fun i hi => by rw [Nat.mod_eq_of_lt (by rw [ok.fl] at hi; exact hi)], fun i hi => by rw [Nat.mod_eq_of_lt (by rw [ok.sl] at hi; exact hi)],
    fun i hi => by rw [Nat.mod_eq_of_lt (by rw [List.length_map, ok.tl] at hi; exact hi)]⟩
  unfold leastD
  cases h : mods.find? (fitD (partsD t f) t.m) with
  | none => exact absurd ((fitD_iff ok (hp _ hmm)).mpr hself) (List.find?_eq_none.mp h _ hmm)
  | some s =>
    have h1 := List.find?_some h
    have h2 := List.mem_of_find?_eq_some h
    refine ⟨h2, (fitD_iff ok (hp _ h2)).mp h1, fun s' hs' hlt hf => ?_⟩
    replace hlt : s' < s := hlt
    have hf' := (fitD_iff ok (hp _ hs')).mpr hf
    obtain ⟨-, as, bs, hE, hA⟩ := List.find?_eq_some_iff_append.mp h
    have hm : s' ∈ as := by
      have hs2 := hs'
      rw [hE, List.mem_append, List.mem_cons] at hs2
      rcases hs2 with z | z | z
      · exact z
      · omega
      · exfalso
        have sorted : mods.Pairwise (· < ·) := by unfold mods; decide
        rw [hE, List.pairwise_append] at sorted
        have := (List.pairwise_cons.mp sorted.2.1).1 s' z
        omega
    have := hA s' hm
    rw [hf'] at this
    cases this
end Bx

-- needs lists
-- imports HandS.TupMul
/-! tuple * n, n at least 1 (tuple * 1 is the tuple itself) -/
namespace Bx
open PySem PySem.Spec PyProof.Rows L2
theorem tuple_mul1 (l : Addr) (items : Array Value) (n : Nat) (dd : Option Addr) (sl : Array (Option Value)) (u : PySem.Tok) :
    Meets (Builtin.«tuple.__mul__» ⟨[.ref l, .int 1 u], []⟩) (fun _ R s => s.heap.get? l = some { cls := .type "tuple", dict := dd, data := .seq items n, slots := sl } ∧ R (.ok (.ret (Value.ref l))) s) :=
  .of_wp fun prog w A R s h => by
    obtain ⟨hp, g, d, tk, os⟩ := s
    obtain ⟨hl, h⟩ := h
    have f1 := AutoSeq1.idx_int
    have c0 : (decide ((1 : Int) < -(2 ^ 63)) || decide ((1 : Int) ≥ 2 ^ 63)) = false := by decide
    have c1 : (items.isEmpty || (1 : Int) == 1) = true := by rw [show ((1 : Int) == 1) = true from rfl, Bool.or_true]
    wp_walk using wpAny_loadPart' hl
    repeat (first
      | (refine wpAny_ite_false (decide_eq_false (by rw [c0]; exact Bool.false_ne_true)) ?_; wp_walk using wpAny_loadPart' hl)
      | (refine wpAny_ite_true (decide_eq_true c1) ?_; wp_walk using wpAny_loadPart' hl))
    exact ⟨_, rfl, h⟩
def rRepTA (K : PySem.W.Frag) : R2 := fun x y H Q => ∃ l k xs, x = .ref l ∧ y = .int k ∧ SqT K H l xs ∧ xs ≠ [] ∧ 1 ≤ k ∧ k ≤ 1000 ∧ xs.length ≤ 1000 ∧ (k = 1 → Q (.ref l) H) ∧ (2 ≤ k → ∀ p, H p = none → Q (.ref p) (upd H p (.tup (List.replicate k.toNat xs).flatten)))
theorem op_repTA {X : Cx} : OpR X (binaryOp .Mult) (rRepTA X.K) := by
  intro pins s σ H x y v u Q I rx ry h
  obtain ⟨l, k, xs, rfl, rfl, hT, hne, h1, h2, hz, q1, q2⟩ := h
  by_cases h3 : 2 ≤ k
  · exact op_repT pins s σ H _ _ v u Q I rx ry ⟨l, k, xs, rfl, rfl, hT, hne, h3, h2, hz, q2 h3⟩
  obtain rfl : k = 1 := by omega
  cases rx
  obtain ⟨t, rfl⟩ := ry
  obtain ⟨its, r, ⟨⟨cls, dd, data, sl⟩, ho, hc, n, hd⟩, hs⟩ := I.tuple hT
  simp only at hc hd
  subst hc hd
  refine wpAny_binaryOp_repeat_ref (T := "tuple") (U := "int") (by decide) ⟨_, ho, rfl⟩ (fun s' => typeIs_int s' 1 t) noFill_tuple_mul F.fills_int_mul F.slot_int_rmul repeat_tuple F.slot_int_index.lookup
    (call_meets F.slot_int_rmul (typeIs_int s 1 t) F.entry_int_rmul (F.args_int_rmul_2 _ _) (int_rmul_tuple 1 t l its.toArray n dd sl)
      ⟨ho, rfl, ⟨_, ho, rfl⟩, call_meets F.slot_tuple_mul ⟨_, ho, rfl⟩ F.entry_tuple_mul (F.args_tuple_mul_2 _ _) (tuple_mul1 l its.toArray n dd sl t) ⟨ho, ?_⟩⟩)
  exact ⟨.ref l, H, I, rfl, q1 rfl⟩
end Bx

-- needs lists
-- imports HandS.SetBool HandS.TupLen
/-! dicts whose keys are truth values -/
namespace Bx
open PySem PySem.Spec PyProof.Rows L2
def dB (P : Program) (w : World) (a : Addr) (kvs : List (Bool × V)) : HO := .ext fun h => kvs.length ≤ sizeLine ∧ (a == sysModules) = false ∧ ∃ vs, KV kvs vs ∧ h.DictOf (PpSet.boolK P w) a vs
section
variable {P : Program} {w : World}
theorem dB_ok {H : Hp} {h : Heap} {a : Addr} {kvs : List (Bool × V)} {vs : List (Bool × Value)} (z : kvs.length ≤ sizeLine) (hd : (a == sysModules) = false) (rel : KV kvs vs) (dd : h.DictOf (PpSet.boolK P w) a vs) : ObjOk P w H h a (dB P w a kvs) := by
  obtain ⟨o, es, ep, ho, r⟩ := dd
  exact ⟨⟨z, hd, vs, rel, o, es, ep, ho, r⟩, ⟨o, ho⟩, fun h1 h2 q k => by
    obtain ⟨z, hd, vs, rel, o, es, ep, ho, r⟩ := q
    exact ⟨z, hd, vs, rel, o, es, ep, k _ ho, r⟩⟩
theorem dB_at {H : Hp} {h : Heap} {a : Addr} {kvs : List (Bool × V)} (hok : HOk P w H h) (e : H a = some (dB P w a kvs)) : kvs.length ≤ sizeLine ∧ (a == sysModules) = false ∧ ∃ vs, KV kvs vs ∧ h.DictOf (PpSet.boolK P w) a vs := by
  have x : ObjOk P w H h a (.ext fun h => kvs.length ≤ sizeLine ∧ (a == sysModules) = false ∧ ∃ vs, KV kvs vs ∧ h.DictOf (PpSet.boolK P w) a vs) := hok a _ e
  exact x.1
theorem dB_tup {a : Addr} {kvs : List (Bool × V)} {xs : List V} : dB P w a kvs ≠ .tup xs := fun z => by
  have z' : HO.ext _ = HO.tup xs := z
  cases z'
theorem dB_lst {a : Addr} {kvs : List (Bool × V)} {xs : List V} : dB P w a kvs ≠ .lst xs := fun z => by
  have z' : HO.ext _ = HO.lst xs := z
  cases z'
end
section
variable {X : Cx} {o i e : Expr} {td ty tv : TE} {pos pos' : Pos}
/-- {} -/
def tDNewB (P : Program) (w : World) : TE := fun _ H Q => ∀ p, H p = none → Q (.ref p) (upd H p (dB P w p []))
theorem pe_dnewB : PE X (.Dict [] [] pos) (tDNewB X.prog X.w) := ⟨fun pins s σ H Q I h =>
  wpAny_Dict_empty ⟨.ref s.heap.objs.size, _, I.laid (a := s.heap.objs.size) (o := dB X.prog X.w s.heap.objs.size []) (t' := s.toks) (fun _ _ q => Heap.get?_push_of_some _ q) (Nat.le_refl _)
    (dB_ok (Nat.zero_le _) (beq_eq_false_iff_ne.mpr (Ne.symm (Nat.ne_of_lt I.big))) .nil (Heap.DictOf.new s.heap)), rfl, h _ (I.hok.fresh (Nat.le_refl _))⟩⟩
/-- b not in d -/
def tDNotInB (P : Program) (w : World) (ty td : TE) : TE := fun σ H Q => ty σ H fun y H1 => td σ H1 fun x H2 => ∃ (a : Addr) (kvs : List (Bool × V)) (b : Bool), x = .ref a ∧ y = .bl b ∧ H2 a = some (dB P w a kvs) ∧ Q (.bl (!(valV kvs b).isSome)) H2
theorem pc_dnotinB (hi : PE X i ty) (ho : PE X o td) : PC X .NotIn i o (tDNotInB X.prog X.w ty td) := by
  refine ⟨fun pins s σ H Q I h => ?_⟩
  refine thn (hi.run pins s σ H _ I h) fun iv s1 ⟨y, H1, I1, ry, q1⟩ => thn (ho.run pins s1 σ H1 _ I1 q1) fun u s2 ⟨x, H2, I2, rx, a, kvs, b, ex, ey, g, q2⟩ => ?_
  subst ex ey
  obtain rfl : u = Value.ref a := rx
  obtain rfl : iv = Value.bool b := ry
  obtain ⟨z, hd, vs, rel, dd⟩ := dB_at I2.hok g
  refine wpAny_notIn_of (PpSet.boolK_is X.prog X.w b) hd dd.mapOf ?_
  rw [← (rel.val b).isSome_eq]
  exact ⟨.bl _, H2, I2.tok _, rfl, q2⟩
/-- d[b] -/
def tDGetB (P : Program) (w : World) (td ty : TE) : TE := fun σ H Q => td σ H fun x H1 => ty σ H1 fun y H2 => ∃ (a : Addr) (kvs : List (Bool × V)) (b : Bool) (v : V), x = .ref a ∧ y = .bl b ∧ H2 a = some (dB P w a kvs) ∧ valV kvs b = some v ∧ Q v H2
/-- d[b] = v -/
def sDPutB (P : Program) (w : World) (td ty tv : TE) : TS := fun D σ H => tv σ H fun v H1 => td σ H1 fun x H2 => ty σ H2 fun y H3 => ∃ (a : Addr) (kvs : List (Bool × V)) (b : Bool), x = .ref a ∧ y = .bl b ∧ H3 a = some (dB P w a kvs) ∧ kvs.length < sizeLine ∧ D.nx σ (upd H3 a (dB P w a (putK kvs b v)))
theorem ps_dputB {value : Expr} (ho : PE X o td) (hi : PE X i ty) (hv : PE X value tv) (hs : swapsWith value (some (.Subscript o i pos')) pos.line X.env = pure false) :
    PS X (.Assign [.Subscript o i pos'] value pos) (sDPutB X.prog X.w td ty tv) := by
  refine ⟨fun pins s σ H D I h => ?_⟩
  refine wpAny_Assign_Subscript (thn (hv.run pins s σ H _ I h) fun r s1 ⟨v, H1, I1, rv, q1⟩ => thn (ho.run pins s1 σ H1 _ I1 q1) fun u s2 ⟨x, H2, I2, rx, q2⟩ => thn (hi.run pins s2 σ H2 _ I2 q2) fun iv s3 ⟨y, H3, I3, ry, a, kvs, b, ex, ey, e, l, q3⟩ => ?_) hs
  subst ex ey
  obtain rfl : u = Value.ref a := rx
  obtain rfl : iv = Value.bool b := ry
  obtain ⟨z, hd, vs, rel, dd⟩ := dB_at I3.hok e
  have hz : vs.length ≤ sizeLine := by rw [← rel.length]; exact z
  have hl : (putK kvs b v).length ≤ sizeLine := by have := length_putK kvs b v; omega
  refine wpAny_setItem_pairs (hsz := hz) (PpSet.boolK_is X.prog X.w b) dd fun h' dd' hs' => ⟨σ, _, ?_, q3⟩
  have he : ∃ q, h'.get? a = some q := let ⟨q, _, _, hq, _⟩ := dd'; ⟨q, hq⟩
  exact d_write I3 (by rw [e]; exact True.intro) hs' he (dB_ok hl hd (rel.put b rv) dd')
theorem pe_dgetB (ho : PE X o td) (hi : PE X i ty) (hs : NoSl i) : PE X (.Subscript o i pos) (tDGetB X.prog X.w td ty) := by
  refine ⟨fun pins s σ H Q I h => ?_⟩
  refine subD_of PySem.F.slot_dict_getitem.lookup hs (thn (ho.run pins s σ H _ I h) fun u s1 ⟨x, H1, I1, rx, q1⟩ => thn (hi.run pins s1 σ H1 _ I1 q1) fun iv s2 ⟨y, H2, I2, ry, a, kvs, b, v, ex, ey, g, hv, q2⟩ => ?_)
  subst ex ey
  obtain rfl : u = Value.ref a := rx
  obtain rfl : iv = Value.bool b := ry
  obtain ⟨z, hd, vs, rel, dd⟩ := dB_at I2.hok g
  obtain ⟨w', hw, rw'⟩ := RelO.some_of (v := v) (o := valueAt vs b) (by rw [← hv]; exact rel.val b)
  exact ⟨dd.typeIs, wpAny_getItem_of (PpSet.boolK_is X.prog X.w b) dd.mapOf hw ⟨v, H2, I2.tok _, rw', q2⟩⟩
/-- len(d) -/
def rLenB (P : Program) (w : World) : List V → Hp → VK → Prop := fun xs H Q => ∃ (a : Addr) (kvs : List (Bool × V)), xs = [.ref a] ∧ H a = some (dB P w a kvs) ∧ Q (.int ((kvs.length : Nat) : Int)) H
theorem call_len_dB : CallR X (.builtin "len") (rLenB X.prog X.w) := by
  intro pins s σ H xs us Q I r h
  obtain ⟨a, kvs, rfl, hp, q⟩ := h
  obtain ⟨u, rfl, rx⟩ := vals1 r
  obtain rfl : u = .ref a := rx
  obtain ⟨z, hd, vs, rel, dd⟩ := dB_at I.hok hp
  refine call_len_dict hd dd (by rw [← rel.length]; rw [sizeLine_eq] at z; omega) ?_
  rw [← rel.length]
  exact ⟨.int _, H, I.tok _, ⟨_, rfl⟩, q⟩
end
end Bx

-- imports KE.GoesZip KE.GoesMore HandS.Walk
/-! zip of a list and a tuple -/
namespace Bx
open PySem PySem.Spec PyProof.Rows L2
/-- the list at a and the tuple at b as they stand at each turn, the items in new pairs -/
def ItzLT (K : PySem.W.Frag) (a b : Addr) : It :=
  ⟨fun i H => ∃ (xs ys : List V) (x y : V), SqL K H a xs ∧ SqT K H b ys ∧ xs[i]? = some x ∧ ys[i]? = some y,
    fun i H v H' => ∃ T x y, v = .ref T ∧ H T = none ∧ H' = upd H T (.tup [x, y]) ∧ (∀ xs, SqL K H a xs → xs[i]? = some x) ∧ ∀ ys, SqT K H b ys → ys[i]? = some y,
    fun i H => ∃ xs ys : List V, SqL K H a xs ∧ SqT K H b ys ∧ xs.length = i ∧ ys.length = i⟩
theorem nm2 {x a b : Nat} (h1 : x ≠ a) (h2 : x ≠ b) : (show Addr from x) ∉ [(show Addr from a), (show Addr from b)] := fun h => by
  rcases List.mem_cons.mp h with e | e
  · exact h1 e
  · exact h2 (List.mem_singleton.mp e)
theorem zipSepLT {n a b : Nat} (ha : a < n) (hb : b < n) : ZipSep2 (n + 4) (n + 2) (n + 3) n (n + 1) [n, a] [n + 1, b] where
  TIz := PySem.W.neN (by omega)
  TOz := PySem.W.neN (by omega)
  TITO := PySem.W.neN (by omega)
  TIi1 := PySem.W.neN (by omega)
  mem1 := List.mem_cons_self
  zf1 := nm2 (by omega) (by omega)
  Tf1 := nm2 (by omega) (by omega)
  TIi2 := PySem.W.neN (by omega)
  mem2 := List.mem_cons_self
  zf2 := nm2 (by omega) (by omega)
  Tf2 := nm2 (by omega) (by omega)
  sep1_2 := nm2 (by omega) (by omega)
  sep2_1 := nm2 (by omega) (by omega)
theorem turn_zipLT {P : Program} {w : World} {K : PySem.W.Frag} {elts : List Expr} {kk : Nat} {tpos : Pos} {a b z TI TO i1 i2 : Addr} (D : ZipSep2 z TI TO i1 i2 [i1, a] [i2, b]) (ha : a ≠ i1) (hb : b ≠ i2) (h12 : i1 ≠ i2) :
    Turn P w K (.Tuple elts kk tpos) (ItzLT K a b) [z, TI, TO, i1, i2] z (fun i h => IsZip h z TI TO .none ∧ IsTupOf2 h TI (.ref i1) (.ref i2) ∧ (∃ x y, IsTupOf2 h TO x y) ∧ h.IsListIter i1 a i ∧ h.IsTupleIter i2 b i) where
  mem := by simp
  obj := fun i h st c hc => by
    obtain ⟨hz, hTI, ⟨x, y, hTO⟩, ⟨o1, e1, _, d1⟩, ⟨o2, e2, _, d2⟩⟩ := st
    have e' : c = z ∨ c = TI ∨ c = TO ∨ c = i1 ∨ c = i2 := by simpa using hc
    rcases e' with q | q | q | q | q
    · rw [q]; exact ⟨_, hz, fun v q => nomatch q⟩
    · rw [q]; exact ⟨_, hTI, fun v q => nomatch q⟩
    · rw [q]; exact ⟨_, hTO, fun v q => nomatch q⟩
    · rw [q]; exact ⟨o1, e1, fun v q => by rw [d1] at q; cases q⟩
    · rw [q]; exact ⟨o2, e2, fun v q => by rw [d2] at q; cases q⟩
  keep := fun i h h' st k => by
    obtain ⟨hz, hTI, ⟨x, y, hTO⟩, h1, h2⟩ := st
    exact ⟨k z (by simp) _ hz, k TI (by simp) _ hTI, ⟨x, y, k TO (by simp) _ hTO⟩, h1.at fun o q => k i1 (by simp) o q, h2.at fun o q => k i2 (by simp) o q⟩
  item := by
    intro X hP hw hK hc i pins s σ H E I hf st hg
    subst hP hw hK
    obtain ⟨hz, hTI, ⟨x0, y0, hTO⟩, h1, h2⟩ := st
    obtain ⟨xs, ys, x, y, hqx, hqy, hx, hy⟩ := hg
    obtain ⟨its, rv, p, _⟩ := I.list hqx
    obtain ⟨its2, rv2, p2, _⟩ := I.tuple hqy
    obtain ⟨u, hu, ru⟩ := rv.get hx
    obtain ⟨u2, hu2, ru2⟩ := rv2.get hy
    have hzl : z < s.heap.objs.size := Heap.lt_size hz
    have hh : X.A.in1.handled = none := I.ok.hd hc
    have l1 : i < its.toArray.size := by
      rw [List.size_toArray]
      exact (List.getElem?_eq_some_iff.mp hu).1
    have l2 : i < its2.toArray.size := by
      rw [List.size_toArray]
      exact (List.getElem?_eq_some_iff.mp hu2).1
    refine wpAny_pyNext_zipD2_item D (Draws.list hh i1 a ha its.toArray) (Draws.tuple hh i2 b hb its2.toArray) hz hTI hTO ⟨h1, p.isList⟩ ⟨h2, p2⟩ l1 l2 fun v1 v2 h' tk q1 q2 z' TO' st1' st2' hT hsz hk => ?_
    have ev1 : v1 = u := by
      have q1' : its.toArray[i]? = some v1 := q1
      rw [List.getElem?_toArray, hu] at q1'
      exact (Option.some.inj q1').symm
    have ev2 : v2 = u2 := by
      have q2' : its2.toArray[i]? = some v2 := q2
      rw [List.getElem?_toArray, hu2] at q2'
      exact (Option.some.inj q2').symm
    subst ev1 ev2
    obtain ⟨h1', _⟩ := st1'
    obtain ⟨h2', _⟩ := st2'
    refine ⟨_, rfl, wpAny_letOwnedTupleGo_zip (s := { s with heap := h', toks := tk }) z' fun h'' z'' sb => ?_⟩
    have hT2 : h''.get? s.heap.objs.size = some { cls := .type "tuple", data := .seq #[v1, v2] } := (sb.2 _ (Nat.ne_of_gt hzl)).trans hT
    have new : ObjOk X.prog X.w (upd H s.heap.objs.size (.tup [x, y])) h'' s.heap.objs.size (.tup [x, y]) :=
      ⟨by show 2 ≤ sizeLine; decide, [v1, v2], .cons ru (.cons ru2 .nil), ⟨_, hT2, rfl, _, rfl⟩⟩
    have I1 : Inv X pins σ (upd H s.heap.objs.size (.tup [x, y])) { s with heap := h'', toks := tk } :=
      I.turnedNew (t' := tk) (ch := [z, TI, TO, i1, i2]) (fun c o hb q => (sb.2 c (fun q' => hb (by simp [q']))).trans (hk c o (fun q' => hb (by simp [q'])) (fun q' => hb (by simp [q'])) (fun q' => hb (by simp [q'])) (fun q' => hb (by simp [q'])) q)) hf (Nat.le_refl _) new
    refine ⟨.ref s.heap.objs.size, _, I1, rfl, ⟨_, x, y, rfl, I.hok.fresh (Nat.le_refl _), rfl, fun l hl => by rw [I.list_inj hl hqx]; exact hx, fun l hl => by rw [I.tuple_inj hl hqy]; exact hy⟩, ⟨z'', ?_, ⟨v1, v2, ?_⟩, ?_, ?_⟩, fun c hcm => ?_⟩
    · exact (sb.2 _ D.TIz).trans (hk _ _ D.TIz D.TITO D.TIi1 D.TIi2 hTI)
    · exact (sb.2 _ D.TOz).trans TO'
    · exact h1'.at fun o q => (sb.2 _ D.zi1.symm).trans q
    · exact h2'.at fun o q => (sb.2 _ D.zi2.symm).trans q
    · have hlt : c < s.heap.objs.size := by
        have e' : c = z ∨ c = TI ∨ c = TO ∨ c = i1 ∨ c = i2 := by simpa using hcm
        rcases e' with q | q | q | q | q
        · rw [q]; exact hzl
        · rw [q]; exact Heap.lt_size hTI
        · rw [q]; exact Heap.lt_size hTO
        · rw [q]; obtain ⟨_, e1, _⟩ := h1; exact Heap.lt_size e1
        · rw [q]; obtain ⟨_, e2, _⟩ := h2; exact Heap.lt_size e2
      rw [upd_ne (Nat.ne_of_lt hlt)]
      exact (hf c hcm).1
  done := by
    intro X hP hw hK hc i pins s σ H E I hf st hg
    subst hP hw hK
    obtain ⟨hz, hTI, ⟨x0, y0, hTO⟩, h1, h2⟩ := st
    obtain ⟨xs, ys, hqx, hqy, e1, e2⟩ := hg
    obtain ⟨its, rv, p, _⟩ := I.list hqx
    obtain ⟨its2, rv2, p2, _⟩ := I.tuple hqy
    have hh : X.A.in1.handled = none := I.ok.hd hc
    have l1 := rv.length
    have l2 := rv2.length
    have s1 : its.toArray.size = i := by rw [List.size_toArray]; omega
    have s2 : its2.toArray.size = i := by rw [List.size_toArray]; omega
    exact wpAny_pyNext_zipD2_end D (Draws.list hh i1 a ha its.toArray) (Draws.tuple hh i2 b hb its2.toArray) hz hTI hTO ⟨h1, p.isList⟩ ⟨h2, p2⟩ (by omega) (by omega) (.inl s1.symm) fun h' tk hk => ⟨rfl, I.turnedL (t' := tk) (ch := [z, TI, TO, i1, i2]) (fun c o hb q =>
      hk c o (fun q' => hb (by simp [q'])) (fun q' => hb (by simp [q'])) (fun q' => hb (by simp [q'])) (fun q' => hb (by simp [q'])) q) hf⟩
  self := fun A i s Q E st h => wpAny_pyIter_zip st.1 h
def iZipLT (K : PySem.W.Frag) (ta : TA) : TI := fun σ H R => ta σ H fun vs H1 => ∃ a b xs ys, vs = [.ref a, .ref b] ∧ SqL K H1 a xs ∧ SqT K H1 b ys ∧ R (ItzLT K a b) H1
theorem pi_zipLT {X : Cx} {e e2 : Expr} {ta : TA} {p pos tpos : Pos} {elts : List Expr} {kk : Nat} (hg : Gl X "zip") (hm : X.mg "zip" = none) (ha : PA X [e, e2] ta)
    (hs : starEach [e, e2] X.env = (false, eval e X.env) :: starEach [e2] X.env := by rfl) (hpl : (backTo pos (starEach [e2] X.env)).any (·.1) = false := by rfl) :
    PI X (.Tuple elts kk tpos) (.Call (.Name "zip" p) [e, e2] [] pos) (iZipLT X.K ta) := by
  refine ⟨fun pins s σ H R I h => ?_⟩
  refine Call_ (ld_blt I hg hm PyProof.Rows.boot_zip (PyProof.Rows.callWith_type1 (thn (ha.run pos pins s σ H _ I h) fun us s1 ⟨vs, H1, I1, r1, q1⟩ => ?_) hs hpl))
  obtain ⟨a, b, xs, ys, ex, hqx, hqy, q⟩ := q1
  subst ex
  cases r1 with
  | cons r rr =>
    cases rr with
    | cons r' rr =>
      cases rr
      cases r
      cases r'
      have fresh5 : ∀ c, c ∈ [s1.heap.objs.size + 4, s1.heap.objs.size + 2, s1.heap.objs.size + 3, s1.heap.objs.size, s1.heap.objs.size + 1] → FpOk X pins H1 c := fun c hcm => by
        have e' : c = s1.heap.objs.size + 4 ∨ c = s1.heap.objs.size + 2 ∨ c = s1.heap.objs.size + 3 ∨ c = s1.heap.objs.size ∨ c = s1.heap.objs.size + 1 := by simpa using hcm
        have hle : s1.heap.objs.size ≤ c := by
          rcases e' with z | z | z | z | z
          · rw [z]; exact Nat.le_add_right _ _
          · rw [z]; exact Nat.le_add_right _ _
          · rw [z]; exact Nat.le_add_right _ _
          · rw [z]; exact Nat.le_refl _
          · rw [z]; exact Nat.le_add_right _ _
        exact I1.fpOk hle (I1.hok.fresh hle)
      obtain ⟨its, rv, p1, _⟩ := I1.list hqx
      obtain ⟨its2, rv2, p2, _⟩ := I1.tuple hqy
      obtain ⟨o2, ho2, _⟩ := id p2
      have la := p1.lt
      have lb := Heap.lt_size ho2
      refine zip_begins2 (begins_list a its.toArray) (begins_tuple b its2.toArray) p1.isList (show s1.heap.IsTuple b its2.toArray from p2) fun h' hz hTI hTO h1 h2 hsz hk => wpAny_pyIter_zip hz ?_
      have I2 : Inv X pins σ H1 { s1 with heap := h' } := I1.kept (t' := s1.toks) hk
      exact ⟨s1.heap.objs.size + 4, [s1.heap.objs.size + 4, s1.heap.objs.size + 2, s1.heap.objs.size + 3, s1.heap.objs.size, s1.heap.objs.size + 1], _, _, H1, rfl, I2, turn_zipLT (zipSepLT la lb) (Nat.ne_of_lt la) (Nat.ne_of_lt (Nat.lt_succ_of_lt lb)) (Nat.ne_of_lt (Nat.lt_succ_self _)), ⟨hz, hTI, ⟨_, _, hTO⟩, ⟨_, h1, rfl, rfl⟩, ⟨_, h2, rfl, rfl⟩⟩, fresh5, q⟩
theorem walk_zipLT {K : PySem.W.Frag} {a b : Addr} {xs ys : List V} (hn : ys.length = xs.length) : Walk (ItzLT K a b) xs.length (fun H => SqL K H a xs ∧ SqT K H b ys) (YPair (fun i => xs[i]?) (fun i => ys[i]?)) := by
  refine ⟨fun i _ hi q => ?_, fun _ q => ⟨xs, ys, q.1, q.2, rfl, hn⟩, fun i H v H' _ q y => ?_⟩
  · have h2 : i < ys.length := by omega
    exact ⟨xs, ys, xs[i], ys[i], q.1, q.2, by simp [hi], by simp [h2]⟩
  · obtain ⟨T, x, z, h1, h2, h3, h4, h5⟩ := y
    exact ⟨T, x, z, h1, h2, h3, h4 xs q.1, h5 ys q.2⟩
end Bx

-- needs lists
-- imports HandS.DictComp HandS.Walk HandS.Conv
/-! dict comprehensions over any walk; dicts that tell the place of a number -/
namespace Bx
open PySem PySem.Spec PyProof.Rows L2
theorem dc_it {J : It} {n : Nat} {G : Hp → Prop} {Y : Nat → Hp → V → Hp → Prop} (w : Walk J n G Y) {g : TG} {tt : TT} {tk tv : TE} {vs : List Nat} {σ : L2.St} {H1 : Hp} {D : Addr} {Qd : Hp → Prop} (Pv : Nat → Hp → Prop) (h0 : Pv 0 (upd H1 D (.dK []))) (hG : ∀ i H, i ≤ n → Pv i H → G H)
    (hs : ∀ i x H H', i < n → Pv i H → Y i H x H' → g x (wipe σ vs) H' fun σ2 H2 => wipe σ2 vs = wipe σ vs ∧ tt σ2 H2 fun b H3 =>
      if b = true then tk σ2 H3 fun y H4 => tv σ2 H4 fun z H5 => ∃ kvs k, y = kV k ∧ H5 D = some (.dK kvs) ∧ kvs.length < sizeLine ∧ Pv (i + 1) (upd H5 D (.dK (putK kvs k z))) else Pv (i + 1) H3) (hd : ∀ H, Pv n H → Qd H) :
    ∃ W : Nat → Nat → Hp → Prop, (∃ m, W 0 m (upd H1 D (.dK []))) ∧ ∀ i m H, W i m H →
      (J.stop i H ∧ Qd H) ∨ (J.go i H ∧ ∃ Nx : Hp → Prop, (∀ H', Nx H' → ∃ m', m' < m ∧ W (i + 1) m' H') ∧ ∀ x H', J.yld i H x H' → g x (wipe σ vs) H' fun σ2 H2 => wipe σ2 vs = wipe σ vs ∧ tt σ2 H2 fun b H3 =>
        if b = true then tk σ2 H3 fun y H4 => tv σ2 H4 fun z H5 => ∃ kvs k, y = kV k ∧ H5 D = some (.dK kvs) ∧ kvs.length < sizeLine ∧ Nx (upd H5 D (.dK (putK kvs k z))) else Nx H3) := by
  refine ⟨fun i m H => m = n - i ∧ i ≤ n ∧ Pv i H, ⟨n, by simp, Nat.zero_le _, h0⟩, ?_⟩
  rintro i m H ⟨rfl, hi, p⟩
  have q := hG i H hi p
  by_cases hlt : i < n
  · refine .inr ⟨w.goes i H hlt q, Pv (i + 1), fun H' p' => ⟨n - (i + 1), by omega, rfl, hlt, p'⟩, fun x H' y => hs i x H H' hlt p (w.yields i H x H' hlt q y)⟩
  · have e : i = n := by omega
    subst e
    exact .inl ⟨w.stops H q, hd H p⟩
def ki (n : Nat) : Key := .inl (n : Int)
theorem ki_inj {a b : Nat} : ki a = ki b ↔ a = b := ⟨fun h => Int.ofNat.inj (Sum.inl.inj h), fun h => by rw [h]⟩
end Bx

-- needs dcit numb least
namespace Bx
open PySem PySem.Spec PyProof.Rows L2
/-- the dict tells each number's place -/
structure ToldN (kvs : List (Key × V)) (acc : List Nat) : Prop where
  len : kvs.length = acc.length
  val : ∀ c : Nat, valV kvs (ki c) = if c ∈ acc then some (.int ((idxK acc c : Nat) : Int)) else none
theorem ToldN.nil : ToldN ([] : List (Key × V)) [] := ⟨rfl, fun k => by rw [if_neg (List.not_mem_nil)]; rfl⟩
theorem ToldN.push {kvs : List (Key × V)} {acc : List Nat} {k : Nat} (h : ToldN kvs acc) (hk : k ∉ acc) : ToldN (putK kvs (ki k) (.int ((kvs.length : Nat) : Int))) (acc ++ [k]) := by
  have e : valV kvs (ki k) = none := by rw [h.val, if_neg hk]
  refine ⟨?_, fun j => ?_⟩
  · rw [putK_new _ e, List.length_append, List.length_append, h.len]
    rfl
  · rw [valV_put, h.val]
    unfold idxK
    by_cases c : j = k
    · subst c
      rw [if_pos rfl, if_pos (List.mem_append_right _ (List.mem_singleton.mpr rfl)), List.idxOf_append, if_neg hk, h.len]
      have : List.idxOf j [j] = 0 := by simp
      rw [this, Nat.zero_add]
    · rw [if_neg (fun z => c (ki_inj.mp z))]
      by_cases m : j ∈ acc
      · rw [if_pos m, if_pos (List.mem_append_left _ m), List.idxOf_append, if_pos m]
      · rw [if_neg m, if_neg (fun z => by rcases List.mem_append.mp z with z | z; exact m z; exact c (List.mem_singleton.mp z))]
/-- the first spots, read from the end -/
def spotV (f : Nat → Nat) (l : List Nat) (c : Nat) : Option V := (l.find? fun p => decide (f p = c)).map fun p : Nat => V.int (p : Int)
theorem spotV_cons {f : Nat → Nat} {p c : Nat} {l : List Nat} : spotV f (p :: l) c = if c = f p then some (.int (p : Int)) else spotV f l c := by
  unfold spotV
  rw [List.find?_cons]
  by_cases h : f p = c
  · rw [decide_eq_true h, if_pos h.symm]
    rfl
  · rw [decide_eq_false h, if_neg fun z => h z.symm]
theorem spotV_sp {f : Nat → Nat} {N c : Nat} (h : ∃ i, i < N ∧ f i = c) : spotV f (List.range N) c = some (.int ((spF f N c : Nat) : Int)) := by
  obtain ⟨i, hi, e⟩ := h
  unfold spotV spF
  cases q : (List.range N).find? fun p => decide (f p = c) with
  | none =>
    have := List.find?_eq_none.mp q i (List.mem_range.mpr hi)
    exact absurd (decide_eq_true e) this
  | some p => rfl
end Bx

-- needs lists deep tables
-- imports HandS.IsInst
/-! values of any kind: what the checks say of them -/
namespace Bx
open PySem PySem.Spec PyProof.Rows L2
def tyD : PyData → String
  | .none => "NoneType"
  | .bool _ => "bool"
  | .int _ => "int"
  | .str _ => "str"
  | .list _ => "list"
  | .tuple _ => "tuple"
  | .dict _ => "dict"
theorem Dp.tyx {K : PySem.W.Frag} {H : Hp} {v : V} {d : PyData} (h : Dp K H v d) : TyX K H v (.type (tyD d)) := by
  cases h with
  | non => exact .base .non
  | bl b => exact .base (.bl b)
  | int i => exact .base (.int i)
  | str x => exact .base (.str x)
  | lst h1 _ => exact tyL h1
  | tup h1 _ => exact tyT h1
def isBoolD : PyData → Bool
  | .bool _ => true
  | _ => false
def isIntD : PyData → Bool
  | .int _ => true
  | _ => false
def isTupD : PyData → Bool
  | .tuple _ => true
  | _ => false
/-- isinstance(v, int), isinstance(v, bool), isinstance(v, tuple) -/
theorem kit_int : ∀ d : PyData, kitB (tyD d) "int" = some (isIntD d || isBoolD d)
  | .none => (show kitB "NoneType" "int" = some false by decide +kernel)
  | .bool _ => (show kitB "bool" "int" = some true by decide +kernel)
  | .int _ => (show kitB "int" "int" = some true by decide +kernel)
  | .str _ => (show kitB "str" "int" = some false by decide +kernel)
  | .list _ => (show kitB "list" "int" = some false by decide +kernel)
  | .tuple _ => (show kitB "tuple" "int" = some false by decide +kernel)
  | .dict _ => (show kitB "dict" "int" = some false by decide +kernel)
theorem kit_bool : ∀ d : PyData, kitB (tyD d) "bool" = some (isBoolD d)
  | .none => (show kitB "NoneType" "bool" = some false by decide +kernel)
  | .bool _ => (show kitB "bool" "bool" = some true by decide +kernel)
  | .int _ => (show kitB "int" "bool" = some false by decide +kernel)
  | .str _ => (show kitB "str" "bool" = some false by decide +kernel)
  | .list _ => (show kitB "list" "bool" = some false by decide +kernel)
  | .tuple _ => (show kitB "tuple" "bool" = some false by decide +kernel)
  | .dict _ => (show kitB "dict" "bool" = some false by decide +kernel)
theorem kit_tup : ∀ d : PyData, kitB (tyD d) "tuple" = some (isTupD d)
  | .none => (show kitB "NoneType" "tuple" = some false by decide +kernel)
  | .bool _ => (show kitB "bool" "tuple" = some false by decide +kernel)
  | .int _ => (show kitB "int" "tuple" = some false by decide +kernel)
  | .str _ => (show kitB "str" "tuple" = some false by decide +kernel)
  | .list _ => (show kitB "list" "tuple" = some false by decide +kernel)
  | .tuple _ => (show kitB "tuple" "tuple" = some true by decide +kernel)
  | .dict _ => (show kitB "dict" "tuple" = some false by decide +kernel)
theorem isTup_of {K : PySem.W.Frag} {H : Hp} {v : V} {d : PyData} (h : Dp K H v d) (e : isTupD d = true) : ∃ a xs ds, v = .ref a ∧ d = .tuple ds ∧ SqT K H a xs ∧ DpAll K H xs ds := by
  cases h with
  | tup h1 h2 => exact ⟨_, _, _, rfl, rfl, h1, h2⟩
  | _ => cases e
theorem isInt_of {K : PySem.W.Frag} {H : Hp} {v : V} {d : PyData} (h : Dp K H v d) (e : isIntD d = true) : ∃ i, v = .int i ∧ d = .int i := by
  cases h with
  | int i => exact ⟨i, rfl, rfl⟩
  | _ => cases e
/-- a number of one of n rows -/
def lenD : PyData → Nat
  | .tuple ds => ds.length
  | _ => 0
/-- a number of one of n rows -/
def spotD (n : Nat) : PyData → Bool
  | .int i => decide (0 ≤ i) && decide (i < (n : Int))
  | _ => false
/-- n booleans -/
def truthsD (n : Nat) : PyData → Bool
  | .tuple ds => decide (ds.length = n) && ds.all isBoolD
  | _ => false
def rowOkD (n : Nat) : PyData → Bool
  | .tuple ds => match ds with
    | [a, b, c] => isBoolD c && (spotD n a && spotD n b)
    | _ => false
  | _ => false
def inMod (i : Int) : Bool := decide (i = 1) || decide (i = 2) || decide (i = 3) || decide (i = 6)
def startsD (m : Int) (n : Nat) : PyData → Bool
  | .tuple ds => decide ((ds.length : Int) = m) && ds.all (spotD n)
  | _ => false
def tableD (m f s b r : PyData) : Bool := match m with
  | .int i => inMod i && (truthsD i.toNat f && (truthsD i.toNat s && match r with
    | .tuple rs => rs.all (rowOkD rs.length) && startsD i rs.length b
    | _ => false))
  | _ => false
theorem truths_ok (l : List Bool) : truthsD l.length (boolsD l) = true := by
  unfold boolsD truthsD
  dsimp only
  rw [decide_eq_true (by rw [List.length_map])]
  rw [Bool.true_and, List.all_map]
  exact List.all_eq_true.mpr fun _ _ => rfl
theorem spot_ok {n c : Nat} (h : c < n) : spotD n (.int (c : Int)) = true := by
  unfold spotD
  dsimp only
  rw [decide_eq_true (show (0 : Int) ≤ (c : Int) by omega), decide_eq_true (show (c : Int) < (n : Int) by omega)]
  rfl
theorem inMod_ok {m : Nat} (h : m = 1 ∨ m = 2 ∨ m = 3 ∨ m = 6) : inMod (m : Int) = true := by
  rcases h with e | e | e | e <;> subst e <;> decide
theorem tableD_ok {t : Tb} (ok : Tok t) : tableD (.int (t.m : Int)) (boolsD t.flats) (boolsD t.steeps) (natsD t.starts) (rowsD t.rows) = true := by
  unfold tableD
  have e1 : ((t.m : Int)).toNat = t.m := by omega
  have h1 : truthsD t.m (boolsD t.flats) = true := by rw [← ok.fl]; exact truths_ok _
  have h2 : truthsD t.m (boolsD t.steeps) = true := by rw [← ok.sl]; exact truths_ok _
  dsimp only
  rw [e1, inMod_ok ok.md, h1, h2]
  unfold rowsD
  dsimp only
  have h3 : (t.rows.map rowD).all (rowOkD (t.rows.map rowD).length) = true := by
    rw [List.all_map, List.length_map]
    refine List.all_eq_true.mpr fun r hr => ?_
    show rowOkD t.rows.length (rowD r) = true
    unfold rowD rowOkD
    dsimp only
    rw [spot_ok (ok.rw1 r hr), spot_ok (ok.rw2 r hr)]
    rfl
  rw [h3]
  unfold natsD startsD
  dsimp only
  rw [List.length_map, ok.tl, decide_eq_true rfl, List.length_map, List.all_map]
  have h4 : t.starts.all (spotD t.rows.length ∘ fun n : Nat => PyData.int (n : Int)) = true := List.all_eq_true.mpr fun c hc => spot_ok (ok.st c hc)
  rw [h4]
  rfl
theorem inMod_eq (i : Int) : inV (V.int i) [V.int 1, V.int 2, V.int 3, V.int 6] = inMod i := by
  by_cases h1 : i = 1
  · subst h1; decide +kernel
  · by_cases h2 : i = 2
    · subst h2; decide +kernel
    · by_cases h3 : i = 3
      · subst h3; decide +kernel
      · by_cases h6 : i = 6
        · subst h6; decide +kernel
        · unfold inMod
          rw [decide_eq_false h1, decide_eq_false h2, decide_eq_false h3, decide_eq_false h6]
          have ne : ∀ {j : Int}, ¬ i = j → eqV (V.int j) (V.int i) = false := fun {j} h => by
            unfold eqV
            simp [h, Ne.symm h]
            try omega
          simp [inV, ne h1, ne h2, ne h3, ne h6]
theorem inMod_nat {i : Int} (h : inMod i = true) : ∃ n : Nat, i = (n : Int) ∧ n ≤ 6 := by
  unfold inMod at h
  simp only [Bool.or_eq_true, decide_eq_true_eq] at h
  exact ⟨i.toNat, by omega, by omega⟩
end Bx

-- needs lists
/-! the law's bag of draws -/
namespace Bx
open PySem PySem.Spec PyProof.Rows L2
structure Bag (H : Hp) (b : Addr) : Prop where
  ex : ∃ (c : Addr) (xs : List Int) (i hold seed : Int), H b = some (.lst [.ref c, .int i, .int hold, .int seed]) ∧ H c = some (.lst (xs.map V.int)) ∧ b ≠ c ∧ xs.length ≤ 63 ∧ 0 ≤ i ∧ 0 ≤ hold ∧ 0 ≤ seed ∧ seed < 2147483647
theorem Bag.keep {H H' : Hp} {b : Addr} (B : Bag H b) (e : Same H H') : Bag H' b := by
  obtain ⟨c, xs, i, hold, seed, h1, h2, r⟩ := B.ex
  exact ⟨c, xs, i, hold, seed, e _ _ h1, e _ _ h2, r⟩
theorem Bag.at_ {H : Hp} {b : Addr} (B : Bag H b) : ∃ o, H b = some o := by
  obtain ⟨c, xs, i, hold, seed, h1, _⟩ := B.ex
  exact ⟨_, h1⟩
theorem Bag.ne {H : Hp} {b p : Addr} (B : Bag H b) (h : H p = none) : p ≠ b := fun e => by
  obtain ⟨o, q⟩ := B.at_
  rw [← e, h] at q
  cases q
/-- a tuple is not the bag -/
theorem Bag.neT {H : Hp} {b p : Addr} {xs : List V} (B : Bag H b) (h : H p = some (.tup xs)) : p ≠ b := fun e => by
  obtain ⟨c, ys, i, hold, seed, h1, _⟩ := B.ex
  rw [e, h1] at h
  cases h
theorem emod_bd (x : Int) {m : Int} (h : 0 < m) : 0 ≤ x % m ∧ x % m < m := ⟨Int.emod_nonneg x (by omega), Int.emod_lt_of_pos x h⟩
end Bx
namespace Bx
open PySem PySem.Spec PyProof.Rows L2
/-- a tuple stays behind a draw -/
theorem Bag.seqT {K : PySem.W.Frag} {H H' : Hp} {b a : Addr} {xs : List V} (B : Bag H b) (e : Kp b H H') (h : SqT K H a xs) : SqT K H' a xs := by
  have nb : ∀ o, H a = some o → (∀ ys, o ≠ .lst ys) → a ≠ b := fun o q n z => by
    obtain ⟨c, ys, i, hold, seed, h1, _⟩ := B.ex
    rw [z, h1] at q
    exact n _ (Option.some.inj q).symm
  rcases h with (h | ⟨o, h⟩) | h
  · exact .inl (.inl (e _ _ (nb _ h fun _ z => by cases z) h))
  · exact .inl (.inr ⟨o, e _ _ (nb _ h fun _ z => by cases z) h⟩)
  · exact .inr h
end Bx
-- needs deep
namespace Bx
open PySem PySem.Spec PyProof.Rows L2
theorem Bag.sameT {H H' : Hp} {b : Addr} (B : Bag H b) (e : Kp b H H') : SameT H H' := fun a o q n => by
  refine e a o (fun z => ?_) q
  obtain ⟨c, ys, i, hold, seed, h1, _⟩ := B.ex
  rw [z, h1] at q
  exact n _ (Option.some.inj q).symm
/-- another list changes: not the one of the script's numbers -/
theorem Bag.other {H : Hp} {b D c : Addr} {r : List V} {o : HO} (B : Bag H b) (hc : H b = some (.lst (.ref c :: r))) (nb : D ≠ b) (n : c ≠ D) : Bag (L2.upd H D o) b := by
  obtain ⟨c', xs, i, hold, seed, h1, h2, h3⟩ := B.ex
  rw [hc] at h1
  cases h1
  exact ⟨c, xs, i, hold, seed, by rw [upd_ne nb.symm]; exact hc, by rw [upd_ne n]; exact h2, h3⟩
theorem Bag.inn {H : Hp} {b : Addr} (B : Bag H b) : ∃ c r, H b = some (.lst (.ref c :: r)) ∧ ∃ o, H c = some o := by
  obtain ⟨c, xs, i, hold, seed, h1, h2, _⟩ := B.ex
  exact ⟨c, _, h1, _, h2⟩
end Bx

-- needs odd tupmul bag
-- imports HandS.TupAny
/-! odd tables: lists of five parts that are no table -/
namespace Bx
open PySem PySem.Spec PyProof.Rows L2
theorem catA_ok {K : PySem.W.Frag} {H : Hp} {a b : Addr} {xs ys : List V} {Q : VK} (ha : SqT K H a xs) (hb : SqT K H b ys) (hz : xs.length + ys.length ≤ 100000) (k : ∀ q H', Same H H' → SqT K H' q (xs ++ ys) → Q (.ref q) H') : rCatA K (.ref a) (.ref b) H Q := by
  refine ⟨a, b, xs, ys, rfl, rfl, ha, hb, sz hz, fun e => ?_, fun _ e => ?_, fun _ _ p hp => ?_⟩
  · subst e
    exact k b H (Same.refl _) hb
  · subst e
    exact k a H (Same.refl _) (by rw [List.append_nil]; exact ha)
  · exact k p _ (same_new hp) (SqT.of upd_same)
theorem repTA_ok {K : PySem.W.Frag} {H : Hp} {a : Addr} {x : V} {n : Nat} {Q : VK} (ha : SqT K H a [x]) (h1 : 1 ≤ n) (h2 : n ≤ 1000) (k : ∀ q H', Same H H' → SqT K H' q (List.replicate n x) → Q (.ref q) H') : rRepTA K (.ref a) (.int (n : Int)) H Q := by
  refine ⟨a, n, [x], rfl, rfl, ha, by simp, by omega, by omega, by simp, fun e => ?_, fun _ p hp => ?_⟩
  · have : n = 1 := by omega
    subst this
    exact k a H (Same.refl _) ha
  · refine k p _ (same_new hp) (SqT.of ?_)
    rw [upd_same]
    have : ((n : Int)).toNat = n := by omega
    rw [this]
    have : ∀ n : Nat, (List.replicate n [x]).flatten = List.replicate n x := fun n => by
      induction n with
      | zero => rfl
      | succ n ih => rw [List.replicate_succ, List.flatten_cons, ih]; rfl
    rw [this]
theorem slA_any {K : PySem.W.Frag} {H : Hp} {a : Addr} {xs : List V} {lo hi : Option Int} {Q : VK} (hs : SqT K H a xs) (k : ∀ q H', Same H H' → SqT K H' q (cutV xs lo hi) → Q (.ref q) H') : rSlA K (.ref a) lo hi H Q := by
  refine ⟨a, xs, rfl, hs, fun w => ?_, fun w q hq => ?_⟩
  · have hw : cutV xs lo hi = xs := by
      unfold cutV
      rw [w.1, w.2, List.drop_zero, Nat.sub_zero, List.take_length]
    exact k a H (Same.refl _) (by rw [hw]; exact hs)
  · exact k q _ (same_new hq) (SqT.of upd_same)
theorem cut_to' {xs : List V} {n : Nat} (h : n ≤ xs.length) : cutV xs none (some (n : Int)) = xs.take n := by
  unfold cutV
  rw [HT.sIx_none, HT.sIx_nat, List.drop_zero, Nat.sub_zero, Nat.min_eq_left h]
theorem cut_last {xs : List V} (h : 0 < xs.length) : cutV xs none (some (-1)) = xs.take (xs.length - 1) := by
  unfold cutV
  rw [HT.sIx_none, List.drop_zero, Nat.sub_zero]
  congr 1
  simp only [HT.sIx]
  rw [if_pos (show (-1 : Int) < 0 by decide)]
  omega
theorem dpTake {K : PySem.W.Frag} {H : Hp} : ∀ {vs : List V} {ds : List PyData} (n : Nat), DpAll K H vs ds → DpAll K H (vs.take n) (ds.take n)
  | _, _, 0, _ => by rw [List.take_zero, List.take_zero]; exact .nil
  | _, _, _ + 1, .nil => .nil
  | _, _, n + 1, .cons h t => .cons h (dpTake n t)
theorem dpDrop {K : PySem.W.Frag} {H : Hp} : ∀ {vs : List V} {ds : List PyData} (n : Nat), DpAll K H vs ds → DpAll K H (vs.drop n) (ds.drop n)
  | _, _, 0, h => h
  | _, _, _ + 1, .nil => .nil
  | _, _, n + 1, .cons _ t => dpDrop n t
theorem dpRep {K : PySem.W.Frag} {H : Hp} {v : V} {d : PyData} (h : Dp K H v d) : ∀ n : Nat, DpAll K H (List.replicate n v) (List.replicate n d)
  | 0 => .nil
  | n + 1 => .cons h (dpRep h n)
theorem noLs_rep {d : PyData} (h : noL d = true) : ∀ n : Nat, noLs (List.replicate n d) = true
  | 0 => rfl
  | n + 1 => by rw [List.replicate_succ, noLs, h, noLs_rep h n]; rfl
theorem noLs_take : ∀ {ds : List PyData} (n : Nat), noLs ds = true → noLs (ds.take n) = true
  | _, 0, _ => by rw [List.take_zero]; rfl
  | [], _ + 1, _ => rfl
  | d :: ds, n + 1, h => by
    rw [noLs, Bool.and_eq_true] at h
    rw [List.take_succ_cons, noLs, h.1, noLs_take n h.2]; rfl
theorem noLs_drop : ∀ {ds : List PyData} (n : Nat), noLs ds = true → noLs (ds.drop n) = true
  | _, 0, h => h
  | [], _ + 1, _ => rfl
  | d :: ds, n + 1, h => by
    rw [noLs, Bool.and_eq_true] at h
    exact noLs_drop n h.2
theorem noLs_app : ∀ {ds es : List PyData}, noLs ds = true → noLs es = true → noLs (ds ++ es) = true
  | [], _, _, h => h
  | d :: ds, es, h, h2 => by
    rw [noLs, Bool.and_eq_true] at h
    rw [List.cons_append, noLs, h.1, noLs_app h.2 h2]; rfl
/-- five parts that are no table -/
def BadT (K : PySem.W.Frag) (H : Hp) (v : V) : Prop := ∃ dm df ds db dr : PyData, Dp K H v (.tuple [dm, df, ds, db, dr]) ∧ lenD dr ≤ 1000 ∧ lenD db ≤ 1000 ∧ noL (.tuple [dm, df, ds, db, dr]) = true ∧ tableD dm df ds db dr = false
theorem BadT.same {K : PySem.W.Frag} {H H' : Hp} {v : V} (e : Same H H') (h : BadT K H v) : BadT K H' v := by
  obtain ⟨dm, df, ds, db, dr, h1, r⟩ := h
  exact ⟨dm, df, ds, db, dr, Dp.same e h1, r⟩
theorem BadT.sameT {K : PySem.W.Frag} {H H' : Hp} {v : V} (e : SameT H H') (h : BadT K H v) : BadT K H' v := by
  obtain ⟨dm, df, ds, db, dr, h1, h2, h3, h4, h5⟩ := h
  exact ⟨dm, df, ds, db, dr, Dp.sameT e h4 h1, h2, h3, h4, h5⟩
theorem bad_new {K : PySem.W.Frag} {H : Hp} {p : Addr} {m f s b r : V} {dm df ds db dr : PyData} (h : H p = none) (hm : Dp K H m dm) (hf : Dp K H f df) (hs : Dp K H s ds) (hb : Dp K H b db) (hr : Dp K H r dr) (lr : lenD dr ≤ 1000) (lb : lenD db ≤ 1000)
    (nm : noL dm = true) (nf : noL df = true) (ns : noL ds = true) (nb : noL db = true) (nr : noL dr = true) (no : tableD dm df ds db dr = false) : BadT K (upd H p (.tup [m, f, s, b, r])) (.ref p) := by
  have e := same_new (o := .tup [m, f, s, b, r]) h
  refine ⟨dm, df, ds, db, dr, .tup (SqT.of upd_same) (.cons (Dp.same e hm) (.cons (Dp.same e hf) (.cons (Dp.same e hs) (.cons (Dp.same e hb) (.cons (Dp.same e hr) .nil))))), lr, lb, ?_, no⟩
  rw [noL, noLs, noLs, noLs, noLs, noLs, nm, nf, ns, nb, nr]
  rfl
theorem odd_cat {K : PySem.W.Frag} {H0 H1 HA : Hp} {D q D2 : Addr} {xs zs : List V} (hs : Same H0 H1) (hD : H1 D = some (.lst xs)) (hb : ∀ x ∈ xs, BadT K H1 x) (e : Same H1 HA) (hz : ∀ x ∈ zs, BadT K HA x) (hq : HA q = none) (h2 : upd HA q (.lst zs) D2 = none) :
    Same H0 (upd (upd HA q (.lst zs)) D2 (.lst (xs ++ zs))) ∧ upd (upd HA q (.lst zs)) D2 (.lst (xs ++ zs)) D2 = some (.lst (xs ++ zs)) ∧ ∀ x ∈ xs ++ zs, BadT K (upd (upd HA q (.lst zs)) D2 (.lst (xs ++ zs))) x := by
  have eq := same_new (o := .lst zs) hq
  have e2 := same_new (o := .lst (xs ++ zs)) h2
  refine ⟨((hs.trans e).trans eq).trans e2, upd_same, fun x hx => ?_⟩
  rcases List.mem_append.mp hx with z | z
  · exact (hb x z).same (e.trans (eq.trans e2))
  · exact (hz x z).same (eq.trans e2)
/-! why they are none -/
theorem no_f {i : Int} {f s b r : PyData} (h : truthsD i.toNat f = false) : tableD (.int i) f s b r = false := by simp [tableD, h]
theorem no_s {i : Int} {f s b r : PyData} (h : truthsD i.toNat s = false) : tableD (.int i) f s b r = false := by simp [tableD, h]
theorem no_r {i : Int} {f s b r : PyData} (h : isTupD r = false) : tableD (.int i) f s b r = false := by cases r <;> first | (simp [tableD]; done) | cases h
theorem no_row {i : Int} {f s b : PyData} {rs : List PyData} (h : rs.all (rowOkD rs.length) = false) : tableD (.int i) f s b (.tuple rs) = false := by simp [tableD, h]
theorem no_b {i : Int} {f s b : PyData} {rs : List PyData} (h : startsD i rs.length b = false) : tableD (.int i) f s b (.tuple rs) = false := by simp [tableD, h]
theorem truths_len {n : Nat} {ds : List PyData} (h : ds.length ≠ n) : truthsD n (.tuple ds) = false := by
  unfold truthsD
  dsimp only
  rw [decide_eq_false h]
  rfl
theorem starts_len {i : Int} {n : Nat} {ds : List PyData} (h : (ds.length : Int) ≠ i) : startsD i n (.tuple ds) = false := by
  unfold startsD
  dsimp only
  rw [decide_eq_false h]
  rfl
theorem starts_rep {m n : Nat} {d : PyData} (h0 : 0 < m) (h : spotD n d = false) : startsD (m : Int) n (.tuple (List.replicate m d)) = false := by
  unfold startsD
  dsimp only
  obtain ⟨m, rfl⟩ : ∃ k, m = k + 1 := ⟨m - 1, by omega⟩
  rw [List.replicate_succ, List.all_cons, h, Bool.false_and, Bool.and_false]
theorem truths_rep {m : Nat} {d : PyData} (h0 : 0 < m) (h : isBoolD d = false) : truthsD m (.tuple (List.replicate m d)) = false := by
  unfold truthsD
  dsimp only
  obtain ⟨m, rfl⟩ : ∃ k, m = k + 1 := ⟨m - 1, by omega⟩
  rw [List.replicate_succ, List.all_cons, h, Bool.false_and, Bool.and_false]
theorem starts_none {m : Nat} {l : List Nat} (h0 : 0 < m) : startsD (m : Int) 0 (natsD l) = false := by
  unfold natsD startsD
  dsimp only
  cases l with
  | nil =>
    rw [decide_eq_false (by show ¬ (((0 : Nat)) : Int) = (m : Int); omega)]
    rfl
  | cons a l =>
    have : spotD 0 (.int (a : Int)) = false := by
      unfold spotD
      dsimp only
      rw [decide_eq_false (show ¬ ((a : Int) < ((0 : Nat) : Int)) by omega), Bool.and_false]
    rw [List.map_cons, List.all_cons, this, Bool.false_and, Bool.and_false]
/-- a row that is none -/
def BadR (K : PySem.W.Frag) (H : Hp) (n : Nat) (v : V) : Prop := ∃ d, Dp K H v d ∧ noL d = true ∧ rowOkD n d = false
theorem BadR.same {K : PySem.W.Frag} {H H' : Hp} {n : Nat} {v : V} (e : Same H H') (h : BadR K H n v) : BadR K H' n v := by
  obtain ⟨d, h1, r⟩ := h
  exact ⟨d, Dp.same e h1, r⟩
theorem BadR.sameT {K : PySem.W.Frag} {H H' : Hp} {n : Nat} {v : V} (e : SameT H H') (h : BadR K H n v) : BadR K H' n v := by
  obtain ⟨d, h1, h2, h3⟩ := h
  exact ⟨d, Dp.sameT e h2 h1, h2, h3⟩
theorem badR_new {K : PySem.W.Frag} {H : Hp} {p : Addr} {n : Nat} {xs : List V} {ds : List PyData} (h : H p = none) (A : DpAll K H xs ds) (hn : noLs ds = true) (no : rowOkD n (.tuple ds) = false) : BadR K (upd H p (.tup xs)) n (.ref p) :=
  ⟨.tuple ds, .tup (SqT.of upd_same) (Dp.sameAll (same_new h) A), by rw [noL]; exact hn, no⟩
theorem dpB {K : PySem.W.Frag} {H : Hp} : ∀ l : List Bool, DpAll K H (l.map V.bl) (l.map PyData.bool)
  | [] => .nil
  | b :: l => .cons (.bl b) (dpB l)
theorem dpN {K : PySem.W.Frag} {H : Hp} : ∀ l : List Nat, DpAll K H (l.map fun n : Nat => V.int (n : Int)) (l.map fun n : Nat => PyData.int (n : Int))
  | [] => .nil
  | b :: l => .cons (.int _) (dpN l)
end Bx

-- needs clsrules
-- imports HandS.ClsMeth HandS.HeadHook2
/-! C.f, a tuple that stands in the class -/
namespace Bx
open PySem PySem.Spec PyProof.Rows L2
def tupAtB (K : PySem.W.Frag) (p : Addr) (vs : List He.Dv) : Bool := match K.lookup p with
  | some ⟨.type c, _, .seq its _, _⟩ => decide (c = "tuple") && (decide (its.size ≤ sizeLine) && He.relAll (vs.map (He.Dv.v K)) its.toList)
  | _ => false
theorem tupAtB_ok {K : PySem.W.Frag} {p : Addr} {vs : List He.Dv} (h : tupAtB K p vs = true) (H : Hp) : SqT K H p (vs.map (He.Dv.v K)) := by
  unfold tupAtB at h
  cases q : K.lookup p with
  | none =>
    rw [q] at h
    cases h
  | some o =>
    obtain ⟨oc, od, dt, osl⟩ := o
    rw [q] at h
    cases oc with
    | type c =>
      cases dt with
      | seq its n =>
        obtain ⟨h1, h2⟩ := He.ba (show (decide (c = "tuple") && (decide (its.size ≤ sizeLine) && He.relAll (vs.map (He.Dv.v K)) its.toList)) = true from h)
        obtain ⟨h3, h4⟩ := He.ba h2
        exact .inr ⟨_, its, n, q, congrArg Value.type (of_decide_eq_true h1), rfl, of_decide_eq_true h3, He.relAll_ok h4⟩
      | _ => cases h
    | _ => cases dt <;> cases h
def cvalB (K : PySem.W.Frag) (C : Addr) (f : Str) (vs : List He.Dv) : Bool := match PySem.W.findCls K (.ref C) (.type "type") f with
  | some (.val (.ref p)) => tupAtB K p vs
  | _ => false
theorem cvalB_ok {K : PySem.W.Frag} {C : Addr} {f : Str} {vs : List He.Dv} (h : cvalB K C f vs = true) : ∃ p, ClX.CVal K C (.type "type") f (.ref p) (.ref p) ∧ ∀ H : Hp, SqT K H p (vs.map (He.Dv.v K)) := by
  unfold cvalB at h
  split at h
  · rename_i p e
    exact ⟨p, ⟨e, rfl⟩, fun H => tupAtB_ok h H⟩
  · cases h
end Bx

-- needs deep bag
-- imports HandS.Lambda
/-! what stays where a lambda is made: all but the tables of code objects -/
namespace Bx
open PySem PySem.Spec PyProof.Rows L2 LamX
theorem extN_same {H H' : Hp} (e : Same H H') : ExtN H H' := fun b o h _ => e b o h
theorem seqT_extN {K : PySem.W.Frag} {H H' : Hp} {a : Addr} {xs : List V} (e : ExtN H H') (h : SqT K H a xs) : SqT K H' a xs := by
  rcases h with (h | ⟨o, h⟩) | h
  · exact .inl (.inl (e _ _ h fun _ z => by cases z))
  · exact .inl (.inr ⟨o, e _ _ h fun _ z => by cases z⟩)
  · exact .inr h
theorem Dp.extN {K : PySem.W.Frag} {H H' : Hp} (e : ExtN H H') : ∀ {d : PyData} {v : V}, noL d = true → Dp K H v d → Dp K H' v d
  | _, _, _, .non => .non
  | _, _, _, .bl b => .bl b
  | _, _, _, .int i => .int i
  | _, _, _, .str x => .str x
  | _, _, n, .lst _ _ => by cases n
  | .tuple ds, _, n, .tup h1 h2 => .tup (seqT_extN e h1) (go (by rw [noL] at n; exact n) h2)
where go : ∀ {ds : List PyData} {vs : List V}, noLs ds = true → DpAll K H vs ds → DpAll K H' vs ds
  | _, _, _, .nil => .nil
  | d :: ds, _, n, .cons h t => by
    rw [noLs, Bool.and_eq_true] at n
    exact .cons (Dp.extN e n.1 h) (go n.2 t)
theorem Bag.extN {H H' : Hp} {b : Addr} (B : Bag H b) (e : ExtN H H') : Bag H' b := by
  obtain ⟨c, xs, i, hold, seed, h1, h2, r⟩ := B.ex
  exact ⟨c, xs, i, hold, seed, e _ _ h1 (fun _ z => by cases z), e _ _ h2 (fun _ z => by cases z), r⟩
theorem tabs_sameT {T : List (Addr × Str)} {H H' : Hp} (e : SameT H H') (t : Tabs T H) : Tabs T H' := fun p hp => by
  obtain ⟨ps, h1, h2, h3⟩ := t p hp
  refine ⟨ps, e _ _ h1 (fun _ z => by cases z), h2, fun pos cv hc => ?_⟩
  obtain ⟨c, e1, e2⟩ := h3 pos cv hc
  exact ⟨c, e1, e _ _ e2 fun ys z => by unfold CodeO at z; cases z⟩
theorem tabs_one {P : Addr} {q : Str} {H : Hp} (h : H P = some (.tbl #[])) : Tabs [(P, q)] H := fun p hp => by
  rw [List.mem_singleton.mp hp]
  exact TabS.nil h
end Bx

-- needs clsops
-- imports OpenK.KOps
namespace Bx
open PySem PySem.Spec PyProof.Rows L2
section
variable {X : Cx} {CX : CXT} {k : Nat} {C f : Addr} {sp : Sp} {E : XK}
/-- len(x) by C's own __len__ -/
def rLenI (C : Addr) (sp : Sp) (E : XK) : List V → Hp → VK → Prop := fun vs H Q => ∃ a, vs = [.ref a] ∧ InsAt C H a ∧ sp [.ref a] H (fun v H' => ∃ n : Nat, v = .int (n : Int) ∧ n < 2 ^ 62 ∧ Q (.int (n : Int)) H') E
theorem cr_lenI (hs : Meth X.K C "__len__" f) (F : FnR X.prog X.w X.K X.mg X.base CX k f sp) (hr : Room (k + 1) X.A) (hx : Passes CX X E) : CallR X (.builtin "len") (rLenI C sp E) := by
  intro pins s σ H vs us Q I r h
  obtain ⟨a, rfl, ⟨dx, fs, ha⟩, hsp⟩ := h
  rw [Vals.ref1 r]
  obtain ⟨mA, O, _⟩ := ins_get I.hok ha
  obtain ⟨od, J, _⟩ := O.look
  obtain ⟨m', hF⟩ := I.fr
  refine PySem.W.len_K hF I.ok.mod.kin J hs.at_ (by exact hs.fn) ?_
  refine wpAny_call (codeAny_mono (F X.A.in1 X.stack s H [.ref a] [.ref a] _ E hr.in1 I.env0.in1 (.cons rfl .nil) hsp) fun r s' hq => ?_)
  cases r with
  | error e => exact hx pins σ H s e s' I hq
  | ok fl =>
    cases fl with
    | ret u =>
      obtain ⟨v, H1, I1, rv, n, ev, hn, q⟩ := I.after hq
      subst ev
      obtain ⟨t, rfl⟩ := rv
      exact ⟨⟨by omega, by omega⟩, ⟨.int _, H1, I1.tok _, ⟨_, rfl⟩, q⟩⟩
    | next => exact False.elim hq
    | brk => exact False.elim hq
    | cont => exact False.elim hq
/-- repr(x) by C's own __repr__ -/
def rReprI (C : Addr) (sp : Sp) (E : XK) : List V → Hp → VK → Prop := fun vs H Q => ∃ a, vs = [.ref a] ∧ InsAt C H a ∧ sp [.ref a] H (fun v H' => ∃ z : Str, v = .str z ∧ Q (.str z) H') E
theorem cr_reprI (hs : Meth X.K C "__repr__" f) (F : FnR X.prog X.w X.K X.mg X.base CX k f sp) (hr : Room (k + 1) X.A) (hx : Passes CX X E) : CallR X (.builtin "repr") (rReprI C sp E) := by
  intro pins s σ H vs us Q I r h
  obtain ⟨a, rfl, ⟨dx, fs, ha⟩, hsp⟩ := h
  rw [Vals.ref1 r]
  obtain ⟨mA, O, _⟩ := ins_get I.hok ha
  obtain ⟨od, J, _⟩ := O.look
  obtain ⟨m', hF⟩ := I.fr
  refine PySem.W.repr_K hr.in1.units0 hF I.ok.mod.kin J hs.at_ (by exact hs.fn) ?_
  refine wpAny_call (codeAny_mono (F X.A.in1 X.stack s H [.ref a] [.ref a] _ E hr.in1 I.env0.in1 (.cons rfl .nil) hsp) fun r s' hq => ?_)
  cases r with
  | error e => exact hx pins σ H s e s' I hq
  | ok fl =>
    cases fl with
    | ret u =>
      obtain ⟨v, H1, I1, rv, z, ev, q⟩ := I.after hq
      subst ev
      obtain ⟨t, rfl⟩ := rv
      exact ⟨.str _, H1, I1, ⟨_, rfl⟩, q⟩
    | next => exact False.elim hq
    | brk => exact False.elim hq
    | cont => exact False.elim hq
end
end Bx

namespace Lw
open PySem PySem.Spec PyProof.Rows L2 Bx
def top (i : Nat) : Stmt := PySem.Challenge.pw_addpath_k28_tables_are_checked.main.body.getD i (.Pass ⟨0, 0, 0, 0⟩)
abbrev s_PairSet___len__ : Stmt := inClass (top 44) 19
abbrev s__law_field : Stmt := top 51
abbrev s__law_try : Stmt := top 52
abbrev s_least_modulus : Stmt := top 32
abbrev s_numbered_t : Stmt := top 30
abbrev s_numbered_b : Stmt := top 30
abbrev s_classes_of : Stmt := top 31
abbrev s_least_table : Stmt := top 33
abbrev s_is_number : Stmt := top 10
abbrev s_is_spot : Stmt := top 27
abbrev s_is_row : Stmt := top 28
abbrev s_are_truths : Stmt := top 26
abbrev s_is_table : Stmt := top 29
abbrev s_PairSet___init__ : Stmt := inClass (top 44) 1
abbrev s__law_set : Stmt := top 54
abbrev s__law_pull : Stmt := top 49
abbrev s__law_of : Stmt := top 50
abbrev s__law_spoilt : Stmt := top 55
abbrev s__law_table : Stmt := top 53
abbrev s__law_bag : Stmt := top 48
abbrev s_law : Stmt := top 56
def d_PairSet___len__ : He.DefD := ⟨("PairSet", some "__len__"), "__len__", "PairSet.__len__", defArgs s_PairSet___len__, defBody s_PairSet___len__, defScope s_PairSet___len__, [], []⟩
def d__law_field : He.DefD := ⟨("_law_field", none), "_law_field", "_law_field", defArgs s__law_field, defBody s__law_field, defScope s__law_field, [], []⟩
def d__law_try : He.DefD := ⟨("_law_try", none), "_law_try", "_law_try", defArgs s__law_try, defBody s__law_try, defScope s__law_try, [], []⟩
def d_least_modulus : He.DefD := ⟨("least_modulus", none), "least_modulus", "least_modulus", defArgs s_least_modulus, defBody s_least_modulus, defScope s_least_modulus, [], []⟩
def d_numbered_t : He.DefD := ⟨("numbered", none), "numbered", "numbered", defArgs s_numbered_t, defBody s_numbered_t, defScope s_numbered_t, [], []⟩
def d_numbered_b : He.DefD := ⟨("numbered", none), "numbered", "numbered", defArgs s_numbered_b, defBody s_numbered_b, defScope s_numbered_b, [], []⟩
def d_classes_of : He.DefD := ⟨("classes_of", none), "classes_of", "classes_of", defArgs s_classes_of, defBody s_classes_of, defScope s_classes_of, [], []⟩
def d_least_table : He.DefD := ⟨("least_table", none), "least_table", "least_table", defArgs s_least_table, defBody s_least_table, defScope s_least_table, [], []⟩
def d_is_number : He.DefD := ⟨("is_number", none), "is_number", "is_number", defArgs s_is_number, defBody s_is_number, defScope s_is_number, [], []⟩
def d_is_spot : He.DefD := ⟨("is_spot", none), "is_spot", "is_spot", defArgs s_is_spot, defBody s_is_spot, defScope s_is_spot, [], []⟩
def d_is_row : He.DefD := ⟨("is_row", none), "is_row", "is_row", defArgs s_is_row, defBody s_is_row, defScope s_is_row, [], []⟩
def d_are_truths : He.DefD := ⟨("are_truths", none), "are_truths", "are_truths", defArgs s_are_truths, defBody s_are_truths, defScope s_are_truths, [], []⟩
def d_is_table : He.DefD := ⟨("is_table", none), "is_table", "is_table", defArgs s_is_table, defBody s_is_table, defScope s_is_table, [], []⟩
def d_PairSet___init__ : He.DefD := ⟨("PairSet", some "__init__"), "__init__", "PairSet.__init__", defArgs s_PairSet___init__, defBody s_PairSet___init__, defScope s_PairSet___init__, [], []⟩
def d__law_set : He.DefD := ⟨("_law_set", none), "_law_set", "_law_set", defArgs s__law_set, defBody s__law_set, defScope s__law_set, [], []⟩
def d__law_pull : He.DefD := ⟨("_law_pull", none), "_law_pull", "_law_pull", defArgs s__law_pull, defBody s__law_pull, defScope s__law_pull, [], []⟩
def d__law_of : He.DefD := ⟨("_law_of", none), "_law_of", "_law_of", defArgs s__law_of, defBody s__law_of, defScope s__law_of, [], []⟩
def d__law_spoilt : He.DefD := ⟨("_law_spoilt", none), "_law_spoilt", "_law_spoilt", defArgs s__law_spoilt, defBody s__law_spoilt, defScope s__law_spoilt, [], []⟩
def d__law_table : He.DefD := ⟨("_law_table", none), "_law_table", "_law_table", defArgs s__law_table, defBody s__law_table, defScope s__law_table, [], []⟩
def d__law_bag : He.DefD := ⟨("_law_bag", none), "_law_bag", "_law_bag", defArgs s__law_bag, defBody s__law_bag, defScope s__law_bag, [], []⟩
def d_law : He.DefD := ⟨("law", none), "law", "law", defArgs s_law, defBody s_law, defScope s_law, [], []⟩
def fnl : List He.DefD := d_PairSet___len__ :: d__law_field :: d__law_try :: d_least_modulus :: d_numbered_t :: d_numbered_b :: d_classes_of :: d_least_table :: d_is_number :: d_is_spot :: d_is_row :: d_are_truths :: d_is_table :: d_PairSet___init__ :: d__law_set :: d__law_pull :: d__law_of :: d__law_spoilt :: d__law_table :: d__law_bag :: d_law :: []
def fna : List He5.DefA := []
abbrev sx_InvalidTable : Stmt := inClass (top 6) 0
def dx_InvalidTable : DefS := ⟨"InvalidTable", "InvalidTable.__init__", defArgs sx_InvalidTable, defBody sx_InvalidTable, defScope sx_InvalidTable, "/claim/cut.py"⟩
def fns : List DefS := dx_InvalidTable :: []
def glos : List Str := "_law_field" :: "_law_try" :: "least_modulus" :: "numbered" :: "classes_of" :: "least_table" :: "is_number" :: "is_spot" :: "is_row" :: "are_truths" :: "is_table" :: "_law_set" :: "_law_pull" :: "_law_of" :: "_law_spoilt" :: "_law_table" :: "_law_bag" :: "law" :: "PathError" :: "PairSet" :: "InvalidTable" :: "MODULI" :: []
def frees : List Str := "len" :: "all" :: "zip" :: "tuple" :: "list" :: "range" :: "isinstance" :: "bool" :: "int" :: "super" :: []
def fmore : List He.Fa := (.mkr "PairSet") :: (.cls "PairSet") :: (.noat "PairSet" "parts") :: (.meth "PairSet" "__len__") :: []
def fal : List He.Fa := glos.map .glo ++ frees.map .free ++ fmore
def exl : List (PySem.W.Frag → Bool) := (fun K => He.tupB K "MODULI" [(.int 1), (.int 2), (.int 3), (.int 6)]) :: (fun K => tupN K "MODULI") :: (fun K => decide (PySem.W.exmOne K (.ref (He.ga K "InvalidTable")) (.ref (He.ga K "PathError")) = some true)) :: (fun K => xfB K (He.ga K "InvalidTable")) :: (fun K => He.eqO (PySem.W.findIn K (.ref (He.ga K "InvalidTable")) "tag") (some none)) :: (fun K => creadB K (He.ga K "PairSet")) :: (fun K => cvalB K (He.ga K "PairSet") "MODULI" [(.int 1), (.int 2), (.int 3), (.int 6)]) :: []
def exf (K : PySem.W.Frag) : Bool := exl.all fun f => f K
abbrev En := Env fal fnl fna exf
theorem En.fx {K : PySem.W.Frag} {mg : Str → Option Value} (E : En K mg) (i : Nat) {f : PySem.W.Frag → Bool} (h : exl[i]? = some f := by rfl) : f K = true := List.all_eq_true.mp E.more f (List.mem_of_getElem? h)
theorem ty_MODULI {K : PySem.W.Frag} {mg : Str → Option Value} (E : En K mg) (H : Hp) : tyV K "tuple" (.ref (He.ga K "MODULI")) H := tupN_ok (E.fx 1) H
theorem at_MODULI {K : PySem.W.Frag} {mg : Str → Option Value} (E : En K mg) (H : Hp) : SqT K H (He.ga K "MODULI") (([(.int 1), (.int 2), (.int 3), (.int 6)] : List He.Dv).map (He.Dv.v K)) := He.tupB_ok (E.fx 0) H
theorem in_glos {x : Str} (h : x ∈ glos) : He.Fa.glo x ∈ fal := List.mem_append_left _ (List.mem_append_left _ (List.mem_map_of_mem h))
theorem in_frees {x : Str} (h : x ∈ frees) : He.Fa.free x ∈ fal := List.mem_append_left _ (List.mem_append_right _ (List.mem_map_of_mem h))
theorem En.gl {K : PySem.W.Frag} {mg : Str → Option Value} (E : En K mg) (x : Str) (h : x ∈ glos := by decide +kernel) : mg x = some (.ref (He.ga K x)) := Env.glo E x (in_glos h)
theorem En.fr {K : PySem.W.Frag} {mg : Str → Option Value} (E : En K mg) (x : Str) (h : x ∈ frees := by decide +kernel) : mg x = none := Env.free E x (in_frees h)
theorem En.mkr_PairSet {K : PySem.W.Frag} {mg : Str → Option Value} (E : En K mg) : Mk K (He.ga K "PairSet") (He.ma K (He.ga K "PairSet") "__init__") := He.mkr_ok (Env.ok E (f := (.mkr "PairSet")) (List.mem_append_right _ (List.mem_of_getElem? (i := 0) rfl)))
theorem En.cls_PairSet {K : PySem.W.Frag} {mg : Str → Option Value} (E : En K mg) : Cls K (He.ga K "PairSet") := He.cls_ok (Env.ok E (f := (.cls "PairSet")) (List.mem_append_right _ (List.mem_of_getElem? (i := 1) rfl)))
theorem En.noat_PairSet_parts {K : PySem.W.Frag} {mg : Str → Option Value} (E : En K mg) : NoAttr K (He.ga K "PairSet") "parts" := He.noat_ok (Env.ok E (f := (.noat "PairSet" "parts")) (List.mem_append_right _ (List.mem_of_getElem? (i := 2) rfl)))
theorem En.meth_PairSet___len__ {K : PySem.W.Frag} {mg : Str → Option Value} (E : En K mg) : Meth K (He.ga K "PairSet") "__len__" (He.ma K (He.ga K "PairSet") "__len__") := He.meth_ok (Env.ok E (f := (.meth "PairSet" "__len__")) (List.mem_append_right _ (List.mem_of_getElem? (i := 3) rfl)))
theorem En.exm_InvalidTable_PathError {K : PySem.W.Frag} {mg : Str → Option Value} (E : En K mg) : PySem.W.exmOne K (.ref (He.ga K "InvalidTable")) (.ref (He.ga K "PathError")) = some true := of_decide_eq_true (E.fx 2)
theorem En.xf_InvalidTable {K : PySem.W.Frag} {mg : Str → Option Value} (E : En K mg) : XfC K (He.ga K "InvalidTable") := xfB_ok (E.fx 3)
theorem En.xno_InvalidTable_tag {K : PySem.W.Frag} {mg : Str → Option Value} (E : En K mg) : PySem.W.findIn K (.ref (He.ga K "InvalidTable")) "tag" = some none := He.eqO_ok (E.fx 4)
theorem En.cread_PairSet {K : PySem.W.Frag} {mg : Str → Option Value} (E : En K mg) : ClX.CRead K (He.ga K "PairSet") (.type "type") := creadB_ok (E.fx 5)
theorem En.cval_PairSet_MODULI {K : PySem.W.Frag} {mg : Str → Option Value} (E : En K mg) : ∃ p, ClX.CVal K (He.ga K "PairSet") (.type "type") "MODULI" (.ref p) (.ref p) ∧ ∀ H : Hp, SqT K H p (([(.int 1), (.int 2), (.int 3), (.int 6)] : List He.Dv).map (He.Dv.v K)) := cvalB_ok (E.fx 6)
section
variable {P : Program} {w : World} {K : PySem.W.Frag} {mg : Str → Option Value} {base : Heap}
/-! ### the exception InvalidTable -/
theorem okx_InvalidTable (E : En K mg) (MP : MainP P "/claim/cut.py") (SS : SaysS fns K) : GoodI P w K mg base CX0 1 (He.ga K "InvalidTable") "InvalidTable" ["self"] (spI0 (He.ga K "InvalidTable") "InvalidTable") := by
  obtain ⟨e, cc⟩ := SS.def_ 0 (d := dx_InvalidTable) rfl
  obtain ⟨kV, doc, pm, ct, an, cd, cl, T, hcd, EX⟩ := DefS.get (d := dx_InvalidTable) MP ⟨_, rfl, rfl⟩ e cc
  refine ⟨_, _, EX, init_ok (N := ["self"]) (ps := ["self"]) (k := 0) (pl := fun _ _ _ => do return (← (pure (some false) : Sem (Option Bool))).getD true) T hcd ⟨rfl, rfl, rfl, by decide, rfl, by decide +kernel, by decide +kernel, by decide +kernel, by rfl, by rfl⟩ (E.fr "super") rfl (by rfl) (fun vs H Q E' h => ?_) (fun A outer s H vs Q E' hr h => ?_) (fun _ => rfl) (fun _ => rfl) (fun _ => rfl) (fun _ => rfl), Binds.all (fun us hl => match us, hl with | [_], _ => rfl), E.gl "InvalidTable"⟩
  · obtain ⟨a, rfl, _⟩ := h; rfl
  obtain ⟨a, rfl, ha, k⟩ := h
  refine ⟨a, _, _, rfl, ha, pa_cons pe_str pa_nil, pss_one (ps_ost (pv 0) pe_str), ?_⟩
  exact ⟨by show 1 ≤ 1000; decide, ha, .ref a, rfl, a, _, rfl, EX.oex, EX.tag, .inl ⟨ha, k⟩⟩

/-! ### PairSet.__len__ -/
def sp_PairSet___len__ (K : PySem.W.Frag) : Sp := fun vs H Q _ => ∃ (a : Addr) (t : Tb), vs = [.ref a] ∧ SetAt K H a t ∧ Q (.int ((t.rows.length : Nat) : Int)) H
theorem ln5_4 (a b c d e : V) : atI [a, b, c, d, e] 4 = some e := rfl

theorem sc_PairSet___len__ : FnScope ["self"] ["self"] (defScope s_PairSet___len__) := ⟨rfl, rfl, rfl, by decide +kernel, rfl, by decide +kernel, by decide +kernel⟩
theorem ok_PairSet___len__ (E : En K mg) : GoodM P w K mg base CX0 1 (He.ma K (He.ga K "PairSet") "__len__") ["self"] (sp_PairSet___len__ K) := by
  obtain ⟨fd, F⟩ := E.says.def_ 0 (d := d_PairSet___len__) rfl
  refine ⟨fd, ?_, F.bindsN fun _ _ _ _ _ _ us hl => match us, hl with | [_], _ => rfl⟩
  refine F.ok sc_PairSet___len__ (fun vs H Q E' h => ?_) (fun cdv A outer s H vs Q E' hr h => ?_)
  · obtain ⟨a, t, rfl, _⟩ := h; rfl
  · have hu64 := hu64_of hr
    refine ⟨_, PSs.nox (pss_one (ps_ret (pe_callB call_len_seq (by rfl) (E.fr "len") (by decide +kernel) (pa_cons (pe_ix ix_tup (pe_fld (pv 0) rfl) pe_int (fun _ _ => rfl)) pa_nil)))), ?_⟩
    obtain ⟨a, t, rfl, hS, k⟩ := h
    obtain ⟨dx, p, h1, h2, h3⟩ := hS.ex
    obtain ⟨p', f, st, b, r, ep, T⟩ := Dp.tab h3
    cases ep
    obtain ⟨ra, us, rfl, hR, hl, hrow⟩ := Dp.rows T.rd
    rw [← hl] at k
    exact ⟨_, rfl, a, _, dx, _, _, rfl, h1, En.cls_PairSet E, En.noat_PairSet_parts E, rfl, p, _, _, _, rfl, rfl, T.sq, ln5_4 _ _ _ _ _, ra, _, rfl, .inr hR, k⟩

/-! ### _law_field -/

theorem sc__law_field : FnScope ["e"] ["e"] (defScope s__law_field) := ⟨rfl, rfl, rfl, by decide +kernel, rfl, by decide +kernel, by decide +kernel⟩
theorem ok__law_field (E : En K mg) : GoodA P w K mg base 1 "_law_field" ["e"] (sp_field K) := by
  obtain ⟨fd, F⟩ := E.says.def_ 1 (d := d__law_field) rfl
  refine ⟨fd, ?_, F.bindsN fun _ _ _ _ _ _ us hl => match us, hl with | [_], _ => rfl, F.kp, E.gl "_law_field"⟩
  refine F.okA sc__law_field (fun vs H Q E' h => ?_) (fun cdv A outer s H vs Q E' hr h => ?_)
  · obtain ⟨a, C, dd, fs, tag, v, rfl, _⟩ := h; rfl
  · refine ⟨_, PSs.nox (pss_cons (ps_if (pt_cmpR op_in_seq (pe_xT (n := "tag") (pv 0) rfl) (pe_lst (pa_cons pe_str (pa_cons pe_str pa_nil))) (by rfl))
        (pss_one (ps_ret (pe_xT (n := "given") (pv 0) rfl)))
        pss_nil)
      (pss_cons (ps_if (pt_cmpR op_in_seq (pe_xT (n := "tag") (pv 0) rfl) (pe_lst (pa_cons pe_str (pa_cons pe_str (pa_cons pe_str (pa_cons pe_str (pa_cons pe_str (pa_cons pe_str (pa_cons pe_str pa_nil)))))))) (by rfl))
        (pss_one (ps_ret (pe_xT (n := "name") (pv 0) rfl)))
        pss_nil)
      (pss_cons (ps_if (pt_cmpR op_in_seq (pe_xT (n := "tag") (pv 0) rfl) (pe_lst (pa_cons pe_str (pa_cons pe_str (pa_cons pe_str pa_nil)))) (by rfl))
        (pss_one (ps_ret (pe_xT (n := "limit") (pv 0) rfl)))
        pss_nil)
      (pss_cons (ps_if (pt_cmpR op_eq (pe_xT (n := "tag") (pv 0) rfl) pe_str (nomark _))
        (pss_one (ps_ret (pe_xT (n := "line") (pv 0) rfl)))
        pss_nil)
      (pss_cons (ps_if (pt_cmpR op_eq (pe_xT (n := "tag") (pv 0) rfl) pe_str (nomark _))
        (pss_one (ps_ret (pe_xT (n := "word") (pv 0) rfl)))
        pss_nil)
      (pss_cons (ps_if (pt_cmpR op_eq (pe_xT (n := "tag") (pv 0) rfl) pe_str (nomark _))
        (pss_one (ps_ret (pe_xT (n := "place") (pv 0) rfl)))
        pss_nil)
      (pss_cons (ps_if (pt_cmpR op_eq (pe_xT (n := "tag") (pv 0) rfl) pe_str (nomark _))
        (pss_one (ps_ret (pe_xT (n := "most") (pv 0) rfl)))
        pss_nil)
      (pss_one (ps_ret (pe_ifExp (pt_cmpR op_eq (pe_xT (n := "tag") (pv 0) rfl) pe_str (nomark _)) (pe_xT (n := "row") (pv 0) rfl) pe_non)))))))))), ?_⟩
    obtain ⟨a, C, dd, fs, tag, v, rfl, ha, T, ht, hd, l, fo, k⟩ := h
    have e0 : Same H H := Same.refl _
    unfold FldOk fldOf at fo
    refine ⟨_, rfl, a, C, dd, fs, .str tag, rfl, ha, T, ht, hd, l, (by show 2 ≤ sizeLine; decide), fun l1 h1 => ⟨l1, _, rfl, .inl (SqL.of upd_same), rfl, rfl, _, rfl, ?_⟩⟩
    have e1 := same_new (o := .lst [.str "InvalidPair", .str "InvalidCount"]) h1
    cases c1 : inV (.str tag) [.str "InvalidPair", .str "InvalidCount"] with
    | true =>
      rw [if_pos c1] at fo
      obtain ⟨f1, f2⟩ := fo
      exact ite_t (by rfl) ⟨_, rfl, a, C, dd, fs, v, rfl, e1 _ _ ha, T, f1, e1 _ _ hd, f2, k _ e1⟩
    | false =>
    rw [if_neg (by rw [c1]; exact Bool.false_ne_true)] at fo
    refine ite_f (by rfl) ?_
    refine ⟨_, rfl, a, C, dd, fs, .str tag, rfl, e1 _ _ ha, T, ht, e1 _ _ hd, l, (by show 7 ≤ sizeLine; decide), fun l2 h2 => ⟨l2, _, rfl, .inl (SqL.of upd_same), rfl, rfl, _, rfl, ?_⟩⟩
    have e2 := e1.trans (same_new (o := .lst [.str "InvalidName", .str "DuplicateName", .str "InUse", .str "WrongKind", .str "Ring", .str "UnknownName", .str "Ended"]) h2)
    cases c2 : inV (.str tag) [.str "InvalidName", .str "DuplicateName", .str "InUse", .str "WrongKind", .str "Ring", .str "UnknownName", .str "Ended"] with
    | true =>
      rw [if_pos c2] at fo
      obtain ⟨f1, f2⟩ := fo
      exact ite_t (by rfl) ⟨_, rfl, a, C, dd, fs, v, rfl, e2 _ _ ha, T, f1, e2 _ _ hd, f2, k _ e2⟩
    | false =>
    rw [if_neg (by rw [c2]; exact Bool.false_ne_true)] at fo
    refine ite_f (by rfl) ?_
    refine ⟨_, rfl, a, C, dd, fs, .str tag, rfl, e2 _ _ ha, T, ht, e2 _ _ hd, l, (by show 3 ≤ sizeLine; decide), fun l3 h3 => ⟨l3, _, rfl, .inl (SqL.of upd_same), rfl, rfl, _, rfl, ?_⟩⟩
    have e3 := e2.trans (same_new (o := .lst [.str "InvalidLimit", .str "CapacityExceeded", .str "TooLong"]) h3)
    cases c3 : inV (.str tag) [.str "InvalidLimit", .str "CapacityExceeded", .str "TooLong"] with
    | true =>
      rw [if_pos c3] at fo
      obtain ⟨f1, f2⟩ := fo
      exact ite_t (by rfl) ⟨_, rfl, a, C, dd, fs, v, rfl, e3 _ _ ha, T, f1, e3 _ _ hd, f2, k _ e3⟩
    | false =>
    rw [if_neg (by rw [c3]; exact Bool.false_ne_true)] at fo
    refine ite_f (by rfl) ?_
    refine ⟨_, rfl, a, C, dd, fs, .str tag, rfl, e3 _ _ ha, T, ht, e3 _ _ hd, l, rfl, _, rfl, ?_⟩
    cases c4 : decide (V.str tag = V.str "InvalidProgram") with
    | true =>
      rw [if_pos c4] at fo
      obtain ⟨f1, f2⟩ := fo
      exact ite_t (by first | exact c4 | rfl) ⟨_, rfl, a, C, dd, fs, v, rfl, e3 _ _ ha, T, f1, e3 _ _ hd, f2, k _ e3⟩
    | false =>
    rw [if_neg (by rw [c4]; exact Bool.false_ne_true)] at fo
    refine ite_f (by first | exact c4 | rfl) ?_
    refine ⟨_, rfl, a, C, dd, fs, .str tag, rfl, e3 _ _ ha, T, ht, e3 _ _ hd, l, rfl, _, rfl, ?_⟩
    cases c5 : decide (V.str tag = V.str "InvalidCommand") with
    | true =>
      rw [if_pos c5] at fo
      obtain ⟨f1, f2⟩ := fo
      exact ite_t (by first | exact c5 | rfl) ⟨_, rfl, a, C, dd, fs, v, rfl, e3 _ _ ha, T, f1, e3 _ _ hd, f2, k _ e3⟩
    | false =>
    rw [if_neg (by rw [c5]; exact Bool.false_ne_true)] at fo
    refine ite_f (by first | exact c5 | rfl) ?_
    refine ⟨_, rfl, a, C, dd, fs, .str tag, rfl, e3 _ _ ha, T, ht, e3 _ _ hd, l, rfl, _, rfl, ?_⟩
    cases c6 : decide (V.str tag = V.str "InvalidItem") with
    | true =>
      rw [if_pos c6] at fo
      obtain ⟨f1, f2⟩ := fo
      exact ite_t (by first | exact c6 | rfl) ⟨_, rfl, a, C, dd, fs, v, rfl, e3 _ _ ha, T, f1, e3 _ _ hd, f2, k _ e3⟩
    | false =>
    rw [if_neg (by rw [c6]; exact Bool.false_ne_true)] at fo
    refine ite_f (by first | exact c6 | rfl) ?_
    refine ⟨_, rfl, a, C, dd, fs, .str tag, rfl, e3 _ _ ha, T, ht, e3 _ _ hd, l, rfl, _, rfl, ?_⟩
    cases c7 : decide (V.str tag = V.str "Heavy") with
    | true =>
      rw [if_pos c7] at fo
      obtain ⟨f1, f2⟩ := fo
      exact ite_t (by first | exact c7 | rfl) ⟨_, rfl, a, C, dd, fs, v, rfl, e3 _ _ ha, T, f1, e3 _ _ hd, f2, k _ e3⟩
    | false =>
    rw [if_neg (by rw [c7]; exact Bool.false_ne_true)] at fo
    refine ite_f (by first | exact c7 | rfl) ?_
    refine ⟨_, rfl, a, C, dd, fs, .str tag, rfl, e3 _ _ ha, T, ht, e3 _ _ hd, l, rfl, _, rfl, ?_⟩
    cases c8 : decide (V.str tag = V.str "ParseError") with
    | true =>
      rw [if_pos c8] at fo
      obtain ⟨f1, f2⟩ := fo
      exact ite_t (by first | exact c8 | rfl) ⟨_, rfl, a, C, dd, fs, v, rfl, e3 _ _ ha, T, f1, e3 _ _ hd, f2, k _ e3⟩
    | false =>
    rw [if_neg (by rw [c8]; exact Bool.false_ne_true)] at fo
    refine ite_f (by first | exact c8 | rfl) ?_
    rw [← (show v = .non from fo)]
    exact k _ e3


/-! ### _law_try -/

theorem sc__law_try : FnScope ["ask", "e"] ["ask"] (defScope s__law_try) := ⟨rfl, rfl, rfl, by decide +kernel, rfl, by decide +kernel, by decide +kernel⟩
theorem ok__law_try (E : En K mg) (G__law_field : GoodA P w K mg base 1 "_law_field" ["e"] (sp_field K)) : GoodT P w K mg base 9 (He.ga K "PathError") := by
  obtain ⟨fd, F⟩ := E.says.def_ 2 (d := d__law_try) rfl
  refine good_try F (F.bindsN fun _ _ _ _ _ _ us hl => match us, hl with | [_], _ => rfl) sc__law_try (E.gl "_law_try") (fun X q cdv h1 h2 h3 h4 h5 hr => ?_)
  subst h1 h2 h3 h4 h5
  exact try_gives G__law_field hr (by decide) (by rfl) (by rfl) (E.gl "PathError") (by rfl)


/-! ### least_modulus -/
structure Partd (m : Nat) (ds : List PyData) : Prop where
  ln : ds.length = m
  el : ∀ d ∈ ds, d.canLay0 = true ∧ d.depth = 0
def sp_least_modulus (K : PySem.W.Frag) : Sp := fun vs H Q _ => ∃ (m : Nat) (a : Addr) (us : List V) (dss : List (List PyData)), vs = [.int (m : Int), .ref a] ∧ SqL K H a us ∧ DpAll K H us (dss.map .tuple) ∧ dss.length ≤ 9 ∧ (∀ ds ∈ dss, Partd m ds) ∧ m ∈ mods ∧
  ∀ H', Same H H' → Q (.int ((leastD dss m : Nat) : Int)) H'
theorem shp_all {ds : List PyData} (h : ∀ d ∈ ds, d.canLay0 = true ∧ d.depth = 0) : SeqAt.shaped (.tuple ds) = true := by
  unfold SeqAt.shaped
  have h1 : ∀ l : List PyData, (∀ d ∈ l, d.canLay0 = true ∧ d.depth = 0) → PyData.canLayAll0 l = true ∧ PyData.depthAll l = 0 := by
    intro l
    induction l with
    | nil => exact fun _ => ⟨by rw [PyData.canLayAll0], by rw [PyData.depthAll]⟩
    | cons x l ih =>
      intro h
      have hx := h x List.mem_cons_self
      have hl := ih fun d hd => h d (List.mem_cons_of_mem _ hd)
      rw [PyData.canLayAll0, PyData.depthAll, hx.1, hx.2, hl.1, hl.2]
      exact ⟨rfl, rfl⟩
  have h2 := h1 ds h
  have h3 : (PyData.tuple ds).canLay0 = true := by rw [PyData.canLay0]; exact h2.1
  have h4 : (PyData.tuple ds).depth ≤ 64 := by
    show PyData.depthAll ds + 1 ≤ 64
    omega
  rw [h3, decide_eq_true h4]
  rfl
theorem DpAll.take {K : PySem.W.Frag} {H : Hp} : ∀ {ds : List PyData} {vs : List V} (n : Nat), DpAll K H vs ds → DpAll K H (vs.take n) (ds.take n)
  | _, _, 0, _ => .nil
  | [], _, n + 1, h => by cases h; exact .nil
  | _ :: _, _, n + 1, h => by
    cases h with
    | cons h1 h2 => exact .cons h1 (DpAll.take n h2)
theorem DpAll.rep {K : PySem.W.Frag} {H : Hp} {ds : List PyData} {vs : List V} (h : DpAll K H vs ds) : ∀ k : Nat, DpAll K H (List.replicate k vs).flatten (List.replicate k ds).flatten
  | 0 => .nil
  | k + 1 => by
    rw [List.replicate_succ, List.replicate_succ, List.flatten_cons, List.flatten_cons]
    exact DpAll.append h (DpAll.rep h k)
theorem mods_get {i : Nat} (hi : i < 4) : ∃ s, mods[i]? = some s ∧ [V.int 1, V.int 2, V.int 3, V.int 6][i]? = some (V.int ((s : Nat) : Int)) := by
  match i, hi with
  | 0, _ => exact ⟨1, rfl, rfl⟩
  | 1, _ => exact ⟨2, rfl, rfl⟩
  | 2, _ => exact ⟨3, rfl, rfl⟩
  | 3, _ => exact ⟨6, rfl, rfl⟩
theorem cdivN {m s : Nat} (hm : m = 1 ∨ m = 2 ∨ m = 3 ∨ m = 6) (hs : s = 1 ∨ s = 2 ∨ s = 3 ∨ s = 6) : CDiv (m : Int) (s : Int) := ⟨by omega, by omega⟩
theorem find_at {p : Nat → Bool} {l : List Nat} {i s : Nat} (hs : l[i]? = some s) (hp : p s = true) (hb : ∀ j, j < i → ∀ q, l[j]? = some q → p q = false) : l.find? p = some s := by
  have hi := (List.getElem?_eq_some_iff.mp hs).1
  rw [List.find?_eq_some_iff_append]
  refine ⟨hp, l.take i, l.drop (i + 1), ?_, fun a ha => ?_⟩
  · have e := (List.getElem?_eq_some_iff.mp hs).2
    rw [← e, ← List.drop_eq_getElem_cons hi, List.take_append_drop]
  · obtain ⟨j, hj⟩ := List.getElem?_of_mem ha
    have hjl := (List.getElem?_eq_some_iff.mp hj).1
    rw [List.length_take] at hjl
    rw [List.getElem?_take, if_pos (by omega)] at hj
    rw [hb j (by omega) a hj]
    rfl

theorem sc_least_modulus : FnScope ["modulus", "parts", "size", "part"] ["modulus", "parts"] (defScope s_least_modulus) := ⟨rfl, rfl, rfl, by decide +kernel, rfl, by decide +kernel, by decide +kernel⟩
theorem ok_least_modulus (E : En K mg) : Good P w K mg base CX0 1 "least_modulus" ["modulus", "parts"] (sp_least_modulus K) := by
  obtain ⟨fd, F⟩ := E.says.def_ 3 (d := d_least_modulus) rfl
  refine ⟨fd, ?_, F.bindsN fun _ _ _ _ _ _ us hl => match us, hl with | [_, _], _ => rfl, F.kp, E.gl "least_modulus"⟩
  refine F.ok sc_least_modulus (fun vs H Q E' h => ?_) (fun cdv A outer s H vs Q E' hr h => ?_)
  · obtain ⟨m, a, us, dss, rfl, _⟩ := h; rfl
  · have hu64 := hu64_of hr
    refine ⟨_, PSs.nox (pss_cons (ps_for PassesOwn.never rfl (pi_tup (pe_glob rfl (E.gl "MODULI") (show RelV (V.ref (He.ga K "MODULI")) _ from rfl))) (pg_name (i := 2) sc_least_modulus.nd rfl (by first | exact Or.inl rfl | exact Or.inr rfl))
        (pss_one (ps_if (PW.pt (pw_and (pt_cmpR op_eq (pe_op op_mod (pv 0) (pv 2)) pe_int (nomark _)) (pw_and1 (pt_val (pe_callB (cr_all rfl) (by rfl) (E.fr "all") (by decide +kernel) (pa_cons (pe_lc (own := [("part", 3)]) (by rfl) sc_least_modulus.nd (pi_list (pv 1)) (blkOk_by (N := ["modulus", "parts", "size", "part"]) (sc := defScope s_least_modulus) (by decide +kernel)) (by exact fun _ _ _ _ _ => (pg_name (i := 3) sc_least_modulus.nd rfl (by first | exact Or.inl rfl | exact Or.inr rfl))) (by exact fun _ _ _ _ _ => pts_nil) (by exact fun _ _ _ _ _ => (pe_cmpR (show OpR _ _ (rEqD K) from op_eqD hu64) (pv 3) (pe_op (show OpR _ _ (rRepTA K) from op_repTA) (pe_slice (show SlR _ (rSlA K) from sl_tupA) (pv 3) po_none (po_some (pv 2))) (pe_op op_fdiv (pv 0) (pv 2))) (nomark _)))) pa_nil))))))
        (pss_one (ps_ret (pv 2)))
        pss_nil)))
      (pss_one (ps_ret (pv 0)))), ?_⟩
    obtain ⟨m, a, us, dss, rfl, hA, hD, hn, hp, hmm, k⟩ := h
    have mp := mods_pos hmm
    have hul := DpAll.length hD
    rw [List.length_map] at hul
    -- for size in MODULI
    refine ⟨_, rfl, ⟨_, at_MODULI E _⟩, for_tup (K := K) (a := He.ga K "MODULI") (xs := [.int 1, .int 2, .int 3, .int 6]) (fun i σ H' => ∃ s2 s3 : Option V, σ = [some (.int (m : Int)), some (.ref a), s2, s3] ∧ Same H H' ∧ ∀ j, j < i → ∀ q, mods[j]? = some q → fitD dss m q = false)
      ⟨_, _, rfl, Same.refl _, fun j hj => absurd hj (Nat.not_lt_zero _)⟩ (fun i σ H' _ _ => at_MODULI E _) ?_ ?_⟩
    · rintro i z σ H1 hz ⟨s2, s3, rfl, e1, hb⟩
      have hi : i < 4 := (List.getElem?_eq_some_iff.mp hz).1
      obtain ⟨s, hs, hz2⟩ := mods_get hi
      rw [hz] at hz2
      cases hz2
      have sp := mods_pos (List.mem_of_getElem? hs)
      have em : ((m : Int) % (s : Int)) = ((m % s : Nat) : Int) := (Int.natCast_emod m s).symm
      have next : ∀ H' (s2 s3 : Option V), Same H H' → fitD dss m s = false → ∃ s2' s3' : Option V, [some (.int (m : Int)), some (.ref a), s2, s3] = [some (.int (m : Int)), some (.ref a), s2', s3'] ∧ Same H H' ∧ ∀ j, j < i + 1 → ∀ q, mods[j]? = some q → fitD dss m q = false := fun H' s2 s3 e hf => ⟨_, _, rfl, e, fun j hj q hq => by
        by_cases hji : j < i
        · exact hb j hji q hq
        · have : j = i := by omega
          subst this
          rw [hs] at hq
          cases hq
          exact hf⟩
      -- if modulus % size == 0 and all(..)
      refine ⟨_, rfl, _, rfl, _, _, rfl, rfl, (by omega), rfl, _, rfl, ?_⟩
      by_cases hd : m % s = 0
      rotate_left
      · refine ite_f (dne (show (m : Int) % (s : Int) ≠ 0 by rw [em]; omega)) (ite_f rfl (next H1 _ _ e1 ?_))
        unfold fitD
        rw [decide_eq_false hd]
        rfl
      refine ite_t (deq (show (m : Int) % (s : Int) = 0 by rw [em]; omega)) ?_
      have ed : ((m : Int) / (s : Int)) = ((m / s : Nat) : Int) := (Int.natCast_ediv m s).symm
      have hle : s ≤ m := Nat.le_of_dvd mp.1 (Nat.dvd_of_mod_eq_zero hd)
      have hk : 0 < m / s := Nat.div_pos hle sp.1
      have hk6 : m / s ≤ m := Nat.div_le_self _ _
      have hA1 := e1.seq hA
      refine ⟨_, rfl, a, rfl, ⟨_, hA1⟩, fun D hD0 => ?_⟩
      refine lc_list (K := K) (a := a) (xs := us) (fun i H' => Same H1 H' ∧ H' D = some (.lst (((dss.take i).map fun ds => PyData.eqv (.tuple ds) (.tuple (repL ds s (m / s)))).map V.bl))) ⟨same_new hD0, upd_same⟩ (fun i H' _ q => q.1.seq hA1) ?_ ?_
      · rintro j x H2 hx ⟨e2, g1⟩
        have hj : j < dss.length := by rw [← hul]; exact (List.getElem?_eq_some_iff.mp hx).1
        have hds : dss[j]? = some dss[j] := List.getElem?_eq_getElem hj
        obtain ⟨d, hd1, hd2⟩ := DpAll.get (Dp.sameAll (e1.trans e2) hD) hx
        rw [List.getElem?_map, hds] at hd1
        cases hd1
        have pd := hp _ (List.getElem_mem hj)
        have etk : dss.take (j + 1) = dss.take j ++ [dss[j]] := by rw [List.take_add_one, hds]; rfl
        generalize dss[j] = ds at *
        obtain ⟨p, xs, rfl, hP, hX⟩ := Dp.tup' hd2
        have hxl := DpAll.length hX
        have hxm : xs.length = m := by rw [hxl]; exact pd.ln
        have hP2 := hP
        have e02 := e1.trans e2
        have lx : (xs.take s).length = s := by rw [List.length_take]; omega
        have hx0 : xs.take s ≠ [] := fun z => by rw [z] at lx; exact absurd lx (by have := sp.1; intro q; simp at q; omega)
        have fin : ∀ (r : Addr) (H3 : Hp), Same H2 H3 → Dp K H3 (.ref r) (.tuple (repL ds s (m / s))) → ∃ d e, Dp K H3 (.ref p) d ∧ Dp K H3 (.ref r) e ∧ SeqAt.shaped d = true ∧ SeqAt.shaped e = true ∧ (∃ acc, H3 D = some (.lst acc) ∧ acc.length < sizeLine ∧ Same H1 (upd H3 D (.lst (acc ++ [.bl (PyData.eqv d e)]))) ∧ (upd H3 D (.lst (acc ++ [.bl (PyData.eqv d e)]))) D = some (.lst (((dss.take (j + 1)).map fun ds => PyData.eqv (.tuple ds) (.tuple (repL ds s (m / s)))).map V.bl))) := fun r H3 e3 hr => by
          refine ⟨_, _, Dp.same e3 hd2, hr, shp_all pd.el, shp_all fun d hd => ?_, _, e3 _ _ g1, ?_, same_mut (e2.trans e3) hD0, ?_⟩
          · unfold repL at hd
            obtain ⟨l, hl1, hl2⟩ := List.mem_flatten.mp hd
            rw [List.eq_of_mem_replicate hl1] at hl2
            exact pd.el d (List.mem_of_mem_take hl2)
          · rw [List.length_map, List.length_map, List.length_take]
            exact szl (by omega)
          · rw [upd_same, etk, List.map_append, List.map_append]
            rfl
        have ec : cutV xs none (some (s : Int)) = xs.take s := by
          unfold cutV
          rw [HT.sIx_none, HT.sIx_nat, List.drop_zero, Nat.sub_zero, Nat.min_eq_left (by omega)]
        have hX0 := hX
        have dv : CDiv (m : Int) (s : Int) := cdivN mp.2 sp.2
        have kpos : (1 : Int) ≤ (m : Int) / (s : Int) := by rw [ed]; omega
        have kle : (m : Int) / (s : Int) ≤ 1000 := by rw [ed]; omega
        have k1 : ∀ q : Addr, ∀ H3, Same H2 H3 → SqT K H3 q (xs.take s) → (m : Int) / (s : Int) = 1 → Dp K H3 (.ref q) (.tuple (repL ds s (m / s))) := fun q H3 e3 h3 hk1 => by
          have hk2 : m / s = 1 := by rw [ed] at hk1; omega
          rw [hk2]
          unfold repL
          rw [List.replicate_succ, List.replicate_zero, List.flatten_cons, List.flatten_nil, List.append_nil]
          exact .tup h3 (DpAll.take s (Dp.sameAll e3 hX0))
        have k2 : ∀ H3 (r : Addr), Same H2 H3 → H3 r = none → Dp K (upd H3 r (.tup (List.replicate ((m : Int) / (s : Int)).toNat (xs.take s)).flatten)) (.ref r) (.tuple (repL ds s (m / s))) := fun H3 r e3 hr => by
          refine .tup (SqT.of upd_same) ?_
          rw [ed, Int.toNat_natCast]
          exact DpAll.rep (DpAll.take s (Dp.sameAll (e3.trans (same_new hr)) hX0)) _
        refine ⟨rfl, _, rfl, _, rfl, _, rfl, _, rfl, p, xs, rfl, hP, fun w => ?_, fun w q hq => ?_⟩
        · have hs2 : s = m := by
            have := w.2
            rw [HT.sIx_nat, hxm] at this
            omega
          have hw : xs.take s = xs := List.take_of_length_le (by omega)
          refine ⟨_, rfl, _, rfl, _, _, rfl, rfl, dv, p, _, xs, rfl, rfl, hP, (by rw [← hw]; exact hx0), kpos, kle, (by omega), fun z => ?_, fun z r hr => ?_⟩
          · exact fin p _ (Same.refl _) (k1 p _ (Same.refl _) (by rw [hw]; exact hP) z)
          · have q := k2 _ r (Same.refl _) hr
            rw [hw] at q
            exact fin r _ (same_new hr) q
        · rw [ec]
          have hq2 : SqT K (upd H2 q (.tup (xs.take s))) q (xs.take s) := SqT.of upd_same
          refine ⟨_, rfl, _, rfl, _, _, rfl, rfl, dv, q, _, xs.take s, rfl, rfl, hq2, hx0, kpos, kle, (by omega), fun z => ?_, fun z r hr => ?_⟩
          · exact fin q _ (same_new hq) (k1 q _ (same_new hq) hq2 z)
          · exact fin r _ ((same_new hq).trans (same_new hr)) (k2 _ r (same_new hq) hr)
      · rintro H2 ⟨e2, g1⟩
        rw [hul, List.take_length] at g1
        have ev : (dss.map fun ds => PyData.eqv (.tuple ds) (.tuple (repL ds s (m / s)))).all id = fitD dss m s := by
          unfold fitD
          rw [decide_eq_true hd, Bool.true_and, List.all_map]
          rfl
        refine ⟨D, _, rfl, SqL.of g1, ?_⟩
        cases hf : fitD dss m s
        · exact ⟨false, by rw [ev, hf], ite_f rfl (next H2 _ _ (e1.trans e2) hf)⟩
        · refine ⟨true, by rw [ev, hf], ite_t rfl ⟨_, rfl, ?_⟩⟩
          have kq := k H2 (e1.trans e2)
          unfold leastD at kq
          rw [find_at hs hf hb] at kq
          exact kq
    · rintro σ H1 ⟨s2, s3, rfl, e1, hb⟩
      have kq := k H1 e1
      have en : mods.find? (fitD dss m) = none := by
        rw [List.find?_eq_none]
        intro x hx hf
        obtain ⟨j, hj⟩ := List.getElem?_of_mem hx
        have hjl : j < 4 := (List.getElem?_eq_some_iff.mp hj).1
        rw [hb j hjl x hj] at hf
        cases hf
      unfold leastD at kq
      rw [en] at kq
      exact ⟨_, rfl, kq⟩

/-! ### numbered_t -/
/-- tuples numbered as they are met -/
def sp_numbered_t (K : PySem.W.Frag) : Sp := fun vs H Q _ => ∃ (a : Addr) (us : List V) (ks : List (List Key)), vs = [.ref a] ∧ SqL K H a us ∧ us.length = ks.length ∧ ks.length ≤ 2000 ∧ (∀ (i : Nat) (k : List Key), ks[i]? = some k → ∃ p, us[i]? = some (.ref p) ∧ H p = some (.tup (k.map kV))) ∧
  ∀ (f : Addr) (H' : Hp), H f = none → Same H H' → H' f = some (.lst ((numb ks).map fun n : Nat => V.int (n : Int))) → Q (.ref f) H'

theorem sc_numbered_t : FnScope ["keys", "known", "key"] ["keys"] (defScope s_numbered_t) := ⟨rfl, rfl, rfl, by decide +kernel, rfl, by decide +kernel, by decide +kernel⟩
theorem ok_numbered_t (E : En K mg) : Good P w K mg base CX0 1 "numbered" ["keys"] (sp_numbered_t K) := by
  obtain ⟨fd, F⟩ := E.says.def_ 4 (d := d_numbered_t) rfl
  refine ⟨fd, ?_, F.bindsN fun _ _ _ _ _ _ us hl => match us, hl with | [_], _ => rfl, F.kp, E.gl "numbered"⟩
  refine F.ok sc_numbered_t (fun vs H Q E' h => ?_) (fun cdv A outer s H vs Q E' hr h => ?_)
  · obtain ⟨a, us, ks, rfl, _⟩ := h; rfl
  · have hu64 := hu64_of hr
    refine ⟨_, PSs.nox (pss_cons (ps_set (i := 1) sc_numbered_t.nd rfl (by first | exact Or.inl rfl | exact Or.inr rfl) pe_dnewT)
      (pss_cons (ps_for PassesOwn.never rfl (pi_list (pv 0)) (pg_name (i := 2) sc_numbered_t.nd rfl (by first | exact Or.inl rfl | exact Or.inr rfl))
        (pss_one (ps_if (pt_cmp (pc_dnotin (hu_of hr) (pv 2) (pv 1)))
        (pss_one (ps_dput (hu_of hr) (pv 1) (pv 2) (pe_callB call_len_dT (by rfl) (E.fr "len") (by decide +kernel) (pa_cons (pv 1) pa_nil)) rfl))
        pss_nil)))
      (pss_one (ps_ret (pe_lc (own := [("key", 2)]) (by rfl) sc_numbered_t.nd (pi_list (pv 0)) (blkOk_by (N := ["keys", "known", "key"]) (sc := defScope s_numbered_t) (by decide +kernel)) (by exact fun _ _ _ _ _ => (pg_name (i := 2) sc_numbered_t.nd rfl (by first | exact Or.inl rfl | exact Or.inr rfl))) (by exact fun _ _ _ _ _ => pts_nil) (by exact fun _ _ _ _ _ => (pe_dget (hu_of hr) (pv 1) (pv 2) (fun _ _ => rfl)))))))), ?_⟩
    obtain ⟨a, us, ks, rfl, hA, hus, hl, hks, k⟩ := h
    refine fun d hd => ?_
    have e0 := same_new (o := .dT []) hd
    have hA0 := e0.seq hA
    have get : ∀ {i : Nat} {z : V}, us[i]? = some z → ∃ c p, ks[i]? = some c ∧ z = .ref p ∧ H p = some (.tup (c.map kV)) := fun {i z} hz => by
      have hi : i < ks.length := by rw [← hus]; exact (List.getElem?_eq_some_iff.mp hz).1
      obtain ⟨p, hp, hP⟩ := hks i _ (List.getElem?_eq_getElem hi)
      rw [hz] at hp
      exact ⟨_, p, List.getElem?_eq_getElem hi, Option.some.inj hp, hP⟩
    refine ⟨_, rfl, a, rfl, ⟨_, hA0⟩, for_list (K := K) (a := a) (xs := us) (fun i σ H' => ∃ (kvs : List (List Key × V)) (s3 : Option V), σ = [some (.ref a), some (.ref d), s3] ∧ Same H H' ∧ H' d = some (.dT kvs) ∧ Told kvs (firsts (ks.take i)))
      ⟨[], _, rfl, e0, upd_same, Told.nil⟩ (fun i σ H' _ ⟨_, _, _, e, _⟩ => e.seq hA) ?_ ?_⟩
    · rintro i z σ H1 hz ⟨kvs, s3, rfl, e1, hD, T⟩
      obtain ⟨c, p, hc, rfl, hP⟩ := get hz
      have hi : i < ks.length := (List.getElem?_eq_some_iff.mp hc).1
      rw [firsts_take hc]
      have hln := numb_len (ks.take i) []
      rw [List.length_take] at hln
      have hln : (firsts (ks.take i)).length ≤ 0 + min i ks.length := hln
      generalize firsts (ks.take i) = acc at *
      have hg := DGet.t (k := c) hD (e1 _ _ hP)
      refine ⟨_, rfl, _, rfl, d, _, rfl, hg, _, rfl, ?_⟩
      rw [T.val]
      unfold fstep
      by_cases m : c ∈ acc
      · rw [if_pos m, if_pos m]
        exact ite_f rfl ⟨kvs, _, rfl, e1, hD, T⟩
      · rw [if_neg m, if_neg m]
        refine ite_t rfl ?_
        have tl := T.len
        refine ⟨_, rfl, d, kvs, rfl, hD, _, rfl, _, rfl, d, _, rfl, DPut.t (k := c) hD (e1 _ _ hP) (szl (by omega)), ?_⟩
        exact ⟨_, _, rfl, same_mut e1 hd, upd_same, T.push m⟩
    · rintro σ H1 ⟨kvs, s3, rfl, e1, hD, T⟩
      rw [hus, List.take_length] at T
      have hA1 := e1.seq hA
      refine ⟨_, rfl, a, rfl, ⟨_, hA1⟩, fun D hD0 => ?_⟩
      refine lc_list (K := K) (a := a) (xs := us) (fun i H' => Same H1 H' ∧ H' D = some (.lst (((numb ks).take i).map fun n : Nat => V.int (n : Int)))) ⟨same_new hD0, upd_same⟩ (fun i H' _ q => q.1.seq hA1) ?_ ?_
      · rintro i z H2 hz ⟨e2, g1⟩
        obtain ⟨c, p, hc, rfl, hP⟩ := get hz
        have hi : i < ks.length := (List.getElem?_eq_some_iff.mp hc).1
        have hn : (numb ks)[i]? = some (idxK (firsts ks) c) := by
          unfold numb
          rw [List.getElem?_map, hc]
          rfl
        have hg := DGet.t (k := c) (e2 _ _ hD) ((e1.trans e2) _ _ hP)
        rw [T.val, if_pos (firsts_mem (List.mem_of_getElem? hc))] at hg
        refine ⟨rfl, _, rfl, _, rfl, d, _, rfl, hg, _, g1, ?_, same_mut e2 hD0, ?_⟩
        · rw [List.length_map, List.length_take]
          exact szl (by omega)
        · rw [upd_same, List.take_add_one, hn, List.map_append]
          rfl
      · rintro H2 ⟨e2, g1⟩
        have ln : us.length = (numb ks).length := by unfold numb; rw [hus, List.length_map]
        rw [ln, List.take_length] at g1
        exact k D H2 (Same.free e1 hD0) (e1.trans e2) g1

/-! ### numbered_b -/
/-- truth values numbered as they are met -/
def sp_numbered_b (K : PySem.W.Frag) : Sp := fun vs H Q _ => ∃ (a : Addr) (ks : List Bool), vs = [.ref a] ∧ SqL K H a (ks.map V.bl) ∧ ks.length ≤ 2000 ∧ ∀ (f : Addr) (H' : Hp), H f = none → Same H H' → H' f = some (.lst ((numb ks).map fun n : Nat => V.int (n : Int))) → Q (.ref f) H'

theorem sc_numbered_b : FnScope ["keys", "known", "key"] ["keys"] (defScope s_numbered_b) := ⟨rfl, rfl, rfl, by decide +kernel, rfl, by decide +kernel, by decide +kernel⟩
theorem ok_numbered_b (E : En K mg) : Good P w K mg base CX0 1 "numbered" ["keys"] (sp_numbered_b K) := by
  obtain ⟨fd, F⟩ := E.says.def_ 5 (d := d_numbered_b) rfl
  refine ⟨fd, ?_, F.bindsN fun _ _ _ _ _ _ us hl => match us, hl with | [_], _ => rfl, F.kp, E.gl "numbered"⟩
  refine F.ok sc_numbered_b (fun vs H Q E' h => ?_) (fun cdv A outer s H vs Q E' hr h => ?_)
  · obtain ⟨a, ks, rfl, _⟩ := h; rfl
  · have hu64 := hu64_of hr
    refine ⟨_, PSs.nox (pss_cons (ps_set (i := 1) sc_numbered_b.nd rfl (by first | exact Or.inl rfl | exact Or.inr rfl) pe_dnewB)
      (pss_cons (ps_for PassesOwn.never rfl (pi_list (pv 0)) (pg_name (i := 2) sc_numbered_b.nd rfl (by first | exact Or.inl rfl | exact Or.inr rfl))
        (pss_one (ps_if (pt_cmp (pc_dnotinB (pv 2) (pv 1)))
        (pss_one (ps_dputB (pv 1) (pv 2) (pe_callB call_len_dB (by rfl) (E.fr "len") (by decide +kernel) (pa_cons (pv 1) pa_nil)) rfl))
        pss_nil)))
      (pss_one (ps_ret (pe_lc (own := [("key", 2)]) (by rfl) sc_numbered_b.nd (pi_list (pv 0)) (blkOk_by (N := ["keys", "known", "key"]) (sc := defScope s_numbered_b) (by decide +kernel)) (by exact fun _ _ _ _ _ => (pg_name (i := 2) sc_numbered_b.nd rfl (by first | exact Or.inl rfl | exact Or.inr rfl))) (by exact fun _ _ _ _ _ => pts_nil) (by exact fun _ _ _ _ _ => (show PE _ _ (tDGetB P w _ _) from pe_dgetB (pv 1) (pv 2) (fun _ _ => rfl)))))))), ?_⟩
    obtain ⟨a, ks, rfl, hA, hl, k⟩ := h
    refine fun d hd => ?_
    -- for key in keys
    have e0 := same_new (o := dB P w d []) hd
    have hA0 := e0.seq hA
    refine ⟨_, rfl, a, rfl, ⟨_, hA0⟩, for_list (K := K) (a := a) (xs := ks.map V.bl) (fun i σ H' => ∃ (kvs : List (Bool × V)) (s3 : Option V), σ = [some (.ref a), some (.ref d), s3] ∧ Same H H' ∧ H' d = some (dB P w d kvs) ∧ Told kvs (firsts (ks.take i)))
      ⟨[], _, rfl, e0, upd_same, Told.nil⟩ (fun i σ H' _ ⟨_, _, _, e, _⟩ => e.seq hA) ?_ ?_⟩
    · rintro i z σ H1 hz ⟨kvs, s3, rfl, e1, hD, T⟩
      rw [List.getElem?_map] at hz
      obtain ⟨c, hc, rfl⟩ := Option.map_eq_some_iff.mp hz
      have hi : i < ks.length := (List.getElem?_eq_some_iff.mp hc).1
      rw [firsts_take hc]
      have hln := numb_len (ks.take i) []
      rw [List.length_take] at hln
      have hln : (firsts (ks.take i)).length ≤ 0 + min i ks.length := hln
      generalize firsts (ks.take i) = acc at *
      refine ⟨_, rfl, _, rfl, d, kvs, c, rfl, rfl, hD, _, rfl, ?_⟩
      rw [T.val]
      unfold fstep
      by_cases m : c ∈ acc
      · rw [if_pos m, if_pos m]
        exact ite_f rfl ⟨kvs, _, rfl, e1, hD, T⟩
      · rw [if_neg m, if_neg m]
        refine ite_t rfl ?_
        have tl := T.len
        refine ⟨_, rfl, d, kvs, rfl, hD, _, rfl, _, rfl, d, kvs, c, rfl, rfl, hD, szl (by omega), ?_⟩
        exact ⟨_, _, rfl, same_mut e1 hd, upd_same, T.push m⟩
    · rintro σ H1 ⟨kvs, s3, rfl, e1, hD, T⟩
      rw [List.length_map, List.take_length] at T
      -- [known[key] for key in keys]
      have hA1 := e1.seq hA
      refine ⟨_, rfl, a, rfl, ⟨_, hA1⟩, fun D hD0 => ?_⟩
      refine lc_list (K := K) (a := a) (xs := ks.map V.bl) (fun i H' => Same H1 H' ∧ H' D = some (.lst (((numb ks).take i).map fun n : Nat => V.int (n : Int)))) ⟨same_new hD0, upd_same⟩ (fun i H' _ q => q.1.seq hA1) ?_ ?_
      · rintro i z H2 hz ⟨e2, g1⟩
        rw [List.getElem?_map] at hz
        obtain ⟨c, hc, rfl⟩ := Option.map_eq_some_iff.mp hz
        have hi : i < ks.length := (List.getElem?_eq_some_iff.mp hc).1
        have hn : (numb ks)[i]? = some (idxK (firsts ks) c) := by
          unfold numb
          rw [List.getElem?_map, hc]
          rfl
        refine ⟨rfl, _, rfl, _, rfl, d, kvs, c, _, rfl, rfl, e2 _ _ hD, (by rw [T.val, if_pos (firsts_mem (List.mem_of_getElem? hc))]), _, g1, ?_, same_mut e2 hD0, ?_⟩
        · rw [List.length_map, List.length_take]
          exact szl (by omega)
        · rw [upd_same, List.take_add_one, hn, List.map_append]
          rfl
      · rintro H2 ⟨e2, g1⟩
        have ln : (ks.map V.bl).length = (numb ks).length := by unfold numb; rw [List.length_map, List.length_map]
        rw [ln, List.take_length] at g1
        exact k D H2 (Same.free e1 hD0) (e1.trans e2) g1

/-! ### classes_of -/
/-- the classes of the rows -/
def sp_classes_of (K : PySem.W.Frag) : Sp := fun vs H Q _ => ∃ (v : V) (t : Tb), vs = [v] ∧ Dp K H v (rowsD t.rows) ∧ Tok t ∧ ∀ (f : Nat → Nat) (l : Addr) (H' : Hp), Cls t f → H l = none → Same H H' → H' l = some (.lst ((List.range t.rows.length).map fun i => V.int ((f i : Nat) : Int))) → Q (.ref l) H'

theorem sc_classes_of : FnScope ["rows", "found", "x", "y", "good", "finer", "one", "row"] ["rows"] (defScope s_classes_of) := ⟨rfl, rfl, rfl, by decide +kernel, rfl, by decide +kernel, by decide +kernel⟩
theorem ok_classes_of (E : En K mg) (G_numbered_t : Good P w K mg base CX0 1 "numbered" ["keys"] (sp_numbered_t K)) (G_numbered_b : Good P w K mg base CX0 1 "numbered" ["keys"] (sp_numbered_b K)) : Good P w K mg base CX0 2 "classes_of" ["rows"] (sp_classes_of K) := by
  obtain ⟨fd, F⟩ := E.says.def_ 6 (d := d_classes_of) rfl
  refine ⟨fd, ?_, F.bindsN fun _ _ _ _ _ _ us hl => match us, hl with | [_], _ => rfl, F.kp, E.gl "classes_of"⟩
  refine F.ok sc_classes_of (fun vs H Q E' h => ?_) (fun cdv A outer s H vs Q E' hr h => ?_)
  · obtain ⟨v, t, rfl, _⟩ := h; rfl
  · have hu64 := hu64_of hr
    refine ⟨_, PSs.nox (pss_cons (ps_set (i := 1) sc_classes_of.nd rfl (by first | exact Or.inl rfl | exact Or.inr rfl) (pe_G G_numbered_b (hr.mono (by decide)) rfl pass0 (pa_cons (pe_lc (own := [("x", 2), ("y", 3), ("good", 4)]) (by rfl) sc_classes_of.nd (pi_tup (pv 0)) (blkOk_by (N := ["rows", "found", "x", "y", "good", "finer", "one", "row"]) (sc := defScope s_classes_of) (by decide +kernel)) (by exact fun _ _ _ _ _ => (show PG _ _ (gTup K 3 _) from pg_tup (n := 3) rfl (pgs_cons (pg_name (i := 2) sc_classes_of.nd rfl (by first | exact Or.inl rfl | exact Or.inr rfl)) (pgs_cons (pg_name (i := 3) sc_classes_of.nd rfl (by first | exact Or.inl rfl | exact Or.inr rfl)) (pgs_cons (pg_name (i := 4) sc_classes_of.nd rfl (by first | exact Or.inl rfl | exact Or.inr rfl)) pgs_nil))))) (by exact fun _ _ _ _ _ => pts_nil) (by exact fun _ _ _ _ _ => (pv 4))) pa_nil)))
      (pss_one (ps_while PassesOwn.never (pt_val pe_bl)
        (pss_cons (ps_set (i := 5) sc_classes_of.nd rfl (by first | exact Or.inl rfl | exact Or.inr rfl) (pe_G G_numbered_t (hr.mono (by decide)) rfl pass0 (pa_cons (pe_lc (own := [("one", 6), ("row", 7)]) (by rfl) sc_classes_of.nd (pi_zipLT (by rfl) (E.fr "zip") (pa_cons (pv 1) (pa_cons (pv 0) pa_nil))) (blkOk_by (N := ["rows", "found", "x", "y", "good", "finer", "one", "row"]) (sc := defScope s_classes_of) (by decide +kernel)) (by exact fun _ _ _ _ _ => (show PG _ _ (gTup K 2 _) from pg_tup (n := 2) rfl (pgs_cons (pg_name (i := 6) sc_classes_of.nd rfl (by first | exact Or.inl rfl | exact Or.inr rfl)) (pgs_cons (pg_name (i := 7) sc_classes_of.nd rfl (by first | exact Or.inl rfl | exact Or.inr rfl)) pgs_nil)))) (by exact fun _ _ _ _ _ => pts_nil) (by exact fun _ _ _ _ _ => (pe_tup (pa_cons (pv 6) (pa_cons (pe_ix (show IxR _ (rIxL K) from ix_list) (pv 1) (pe_ix (show IxR _ (rIxT K) from ix_tup) (pv 7) pe_int (fun _ _ => rfl)) (fun _ _ => rfl)) (pa_cons (pe_ix (show IxR _ (rIxL K) from ix_list) (pv 1) (pe_ix (show IxR _ (rIxT K) from ix_tup) (pv 7) pe_int (fun _ _ => rfl)) (fun _ _ => rfl)) pa_nil)))))) pa_nil)))
      (pss_cons (ps_if (pt_cmpR (op_eqD hu64) (pv 5) (pv 1) (nomark _))
        (pss_one (ps_ret (pv 1)))
        pss_nil)
      (pss_one (ps_set (i := 1) sc_classes_of.nd rfl (by first | exact Or.inl rfl | exact Or.inr rfl) (pv 5)))))))), ?_⟩
    obtain ⟨v, t, rfl, hD, ok, k⟩ := h
    obtain ⟨ra, us, rfl, hR, hl, hrow⟩ := Dp.rows hD
    have r1 := ok.r1
    have goodat : ∀ {i : Nat} {r : Nat × Nat × Bool}, t.rows[i]? = some r → goodT t i = r.2.2 := fun {i r} hr => by
      unfold goodT
      rw [hr]
    have goat : ∀ {i : Nat} {r : Nat × Nat × Bool}, t.rows[i]? = some r → goT t i true = r.1 ∧ goT t i false = r.2.1 := fun {i r} hr => by
      unfold goT
      rw [hr]
      exact ⟨rfl, rfl⟩
    -- found = numbered([good for x, y, good in rows])
    refine ⟨_, rfl, ra, rfl, ⟨_, hR⟩, fun D hD0 => ?_⟩
    refine lc_tup (K := K) (a := ra) (xs := us) (fun i H' => Same H H' ∧ H' D = some (.lst (((List.range i).map (goodT t)).map V.bl))) ⟨same_new hD0, upd_same⟩ (fun i H' _ q => seqT q.1 hR) ?_ ?_
    · rintro i z H2 hz ⟨e2, g1⟩
      have hi : i < t.rows.length := by rw [← hl]; exact (List.getElem?_eq_some_iff.mp hz).1
      obtain ⟨p, hp, hP⟩ := hrow i _ (List.getElem?_eq_getElem hi)
      rw [hz] at hp
      cases hp
      refine ⟨p, _, rfl, seqT e2 hP, rfl, _, _, rfl, _, _, rfl, _, _, rfl, rfl, rfl, _, rfl, _, g1, ?_, same_mut e2 hD0, ?_⟩
      · rw [List.length_map, List.length_map, List.length_range]
        exact szl (by omega)
      · rw [upd_same, List.range_succ, List.map_append, List.map_append, List.map_cons, List.map_cons, goodat (List.getElem?_eq_getElem hi)]
        rfl
    rintro H2 ⟨e2, g1⟩
    rw [hl] at g1
    refine ⟨D, (List.range t.rows.length).map (goodT t), rfl, SqL.of g1, (by rw [List.length_map, List.length_range]; omega), fun l0 H3 hl0 e3 hL0 => ?_⟩
    have e03 := e2.trans e3
    rw [numb_pat, List.map_map] at hL0
    -- while True
    refine ⟨fun m σ H' => ∃ (f : Nat → Nat) (l : Addr) (s2 s3 s4 s5 s6 s7 : Option V), m = t.rows.length - (fpos f t.rows.length).length ∧ Part t f ∧ σ = [some (.ref ra), some (.ref l), s2, s3, s4, s5, s6, s7] ∧ Same H H' ∧ H l = none ∧ H' l = some (.lst ((List.range t.rows.length).map fun i => V.int ((f i : Nat) : Int))),
      ⟨_, _, l0, _, _, _, _, _, _, rfl, Part.start t, rfl, e03, Same.free e2 hl0, hL0⟩, ?_⟩
    rintro m σ H4 ⟨f, l, s2, s3, s4, s5, s6, s7, rfl, pf, rfl, e4, hl1, hL⟩
    refine ⟨true, rfl, ite_t rfl ⟨fun σ' H'' => ∃ m', m' < t.rows.length - (fpos f t.rows.length).length ∧ ∃ (f : Nat → Nat) (l : Addr) (s2 s3 s4 s5 s6 s7 : Option V), m' = t.rows.length - (fpos f t.rows.length).length ∧ Part t f ∧ σ' = [some (.ref ra), some (.ref l), s2, s3, s4, s5, s6, s7] ∧ Same H H'' ∧ H l = none ∧ H'' l = some (.lst ((List.range t.rows.length).map fun i => V.int ((f i : Nat) : Int))), fun _ _ q => q, ?_⟩⟩
    -- finer = numbered([(one, found[row[0]], found[row[1]]) for one, row in zip(found, rows)])
    have fat : ∀ {i : Nat}, i < t.rows.length → atI ((List.range t.rows.length).map fun i => V.int ((f i : Nat) : Int)) ((i : Nat) : Int) = some (V.int ((f i : Nat) : Int)) := fun {i} hi => atI_nat (by
      rw [List.getElem?_map, List.getElem?_range hi]
      rfl)
    refine ⟨_, rfl, _, rfl, l, ra, _, _, rfl, SqL.of hL, seqT e4 hR, fun D hD0 => ?_⟩
    refine lc_it (walk_zipLT (K := K) (a := l) (b := ra) (xs := (List.range t.rows.length).map fun i => V.int ((f i : Nat) : Int)) (ys := us) (by rw [hl, List.length_map, List.length_range]))
      (fun i H' => Same H4 H' ∧ ∃ vs : List V, H' D = some (.lst vs) ∧ vs.length = i ∧ ∀ j, j < i → ∃ p, vs[j]? = some (.ref p) ∧ H' p = some (.tup ((keyF t f j).map kV)))
      ⟨same_new hD0, [], upd_same, rfl, fun j hj => absurd hj (Nat.not_lt_zero _)⟩ (fun i H' _ q => ⟨q.1.seq (SqL.of hL), seqT (e4.trans q.1) hR⟩) ?_ ?_
    · rintro i x H5 H6 hi ⟨e5, vs, hV, hvl, hvs⟩ ⟨T, a', b', rfl, hT, rfl, hx, hy⟩
      rw [List.length_map, List.length_range] at hi
      obtain ⟨p, hp, hP⟩ := hrow i _ (List.getElem?_eq_getElem hi)
      dsimp only at hx hy
      rw [hp] at hy
      cases hy
      rw [List.getElem?_map, List.getElem?_range hi] at hx
      cases hx
      have go := goat (List.getElem?_eq_getElem hi)
      have b1 := ok.rw1 _ (List.getElem_mem hi)
      have b2 := ok.rw2 _ (List.getElem_mem hi)
      have e6 : Same H5 (upd H5 T (.tup [V.int ((f i : Nat) : Int), .ref p])) := same_new hT
      have nD : D ≠ T := ne_of_none hV hT
      have hP6 := seqT ((e4.trans e5).trans e6) hP
      have hL6 := (e5.trans e6) _ _ hL
      have hV6 := e6 _ _ hV
      have hTT : (upd H5 T (.tup [V.int ((f i : Nat) : Int), .ref p])) T = some (.tup [V.int ((f i : Nat) : Int), .ref p]) := upd_same
      generalize upd H5 T (.tup [V.int ((f i : Nat) : Int), .ref p]) = H6 at *
      refine ⟨T, _, rfl, SqT.of hTT, rfl, _, _, rfl, _, _, rfl, rfl, rfl, ?_⟩
      refine ⟨_, rfl, _, rfl, _, rfl, p, _, _, _, rfl, rfl, hP6, rfl, l, _, _, _, rfl, rfl, SqL.of hL6, fat b1, _, rfl, _, rfl, p, _, _, _, rfl, rfl, hP6, rfl, l, _, _, _, rfl, rfl, SqL.of hL6, fat b2, (by show 3 ≤ sizeLine; decide), fun q hq => ?_⟩
      have nDq : D ≠ q := ne_of_none hV6 hq
      refine ⟨vs, (by rw [upd_ne nDq]; exact hV6), szl (by omega), same_mut ((e5.trans e6).trans (same_new hq)) hD0, vs ++ [.ref q], upd_same, (by rw [List.length_append, hvl]; rfl), fun j hj => ?_⟩
      by_cases hji : j < i
      · obtain ⟨pj, hpj, hPj⟩ := hvs j hji
        have nDp : pj ≠ D := fun z => by
          rw [z] at hPj
          rw [hV] at hPj
          cases hPj
        refine ⟨pj, by rw [List.getElem?_append_left (by omega)]; exact hpj, ?_⟩
        rw [upd_ne nDp]
        exact (e6.trans (same_new hq)) _ _ hPj
      · have : j = i := by omega
        subst this
        refine ⟨q, by rw [List.getElem?_append_right (by omega), hvl, Nat.sub_self]; rfl, ?_⟩
        rw [upd_ne nDq.symm, upd_same]
        unfold keyF
        rw [go.1, go.2]
        rfl
    rintro H5 ⟨e5, vs, hV, hvl, hvs⟩
    rw [List.length_map, List.length_range] at hvl hvs
    refine ⟨D, vs, (List.range t.rows.length).map (keyF t f), rfl, SqL.of hV, (by rw [hvl, List.length_map, List.length_range]), (by rw [List.length_map, List.length_range]; omega), fun i ky hk => ?_, fun l2 H6 hl2 e6 hL2 => ?_⟩
    · rw [List.getElem?_map] at hk
      obtain ⟨j, hj, rfl⟩ := Option.map_eq_some_iff.mp hk
      have hi : i < t.rows.length := by
        have := (List.getElem?_eq_some_iff.mp hj).1
        rw [List.length_range] at this
        exact this
      rw [List.getElem?_range hi] at hj
      cases hj
      exact hvs i hi
    rw [numb_pat, List.map_map] at hL2
    have e46 := (e4.trans e5).trans e6
    have hLn := (e5.trans e6) _ _ hL
    -- if finer == found
    have dL : ∀ {g : Nat → Nat} {q : Addr}, H6 q = some (.lst ((List.range t.rows.length).map fun i => V.int ((g i : Nat) : Int))) → Dp K H6 (.ref q) (.list (((List.range t.rows.length).map g).map fun n : Nat => PyData.int (n : Int))) := fun {g q} hq => by
      refine .lst (SqL.of hq) ?_
      rw [List.map_map]
      generalize List.range t.rows.length = L
      induction L with
      | nil => exact .nil
      | cons a L ih => exact .cons (.int _) ih
    refine ⟨_, rfl, _, rfl, _, _, dL (g := pat (keyF t f) t.rows.length) hL2, dL hLn, shp_ints _, shp_ints _, _, rfl, ?_⟩
    have ev : PyData.eqv (.list (((List.range t.rows.length).map (pat (keyF t f) t.rows.length)).map fun n : Nat => PyData.int (n : Int))) (.list (((List.range t.rows.length).map f).map fun n : Nat => PyData.int (n : Int))) = decide (((List.range t.rows.length).map (pat (keyF t f) t.rows.length)) = ((List.range t.rows.length).map f)) := by
      rw [PyData.eqv]
      exact eqvAll_map eqv_intN _ _
    have el : ((List.range t.rows.length).map (pat (keyF t f) t.rows.length)) = ((List.range t.rows.length).map f) ↔ ∀ i, i < t.rows.length → pat (keyF t f) t.rows.length i = f i := by
      rw [List.map_inj_left]
      exact ⟨fun h i hi => h i (List.mem_range.mpr hi), fun h i hi => h i (List.mem_range.mp hi)⟩
    by_cases c : ∀ i, i < t.rows.length → pat (keyF t f) t.rows.length i = f i
    · refine ite_t (by rw [ev]; exact decide_eq_true (el.mpr c)) ?_
      exact ⟨_, rfl, k f l H6 (pf.done ok c) hl1 e46 hLn⟩
    · refine ite_f (by rw [ev]; exact decide_eq_false fun z => c (el.mp z)) ?_
      have mo := pf.more c
      have le := fpos_le (pat (keyF t f) t.rows.length) t.rows.length
      exact ⟨_, rfl, _, (by omega), _, l2, _, _, _, _, _, _, rfl, pf.next ok, rfl, e46, Same.free (e4.trans e5) hl2, hL2⟩

/-! ### least_table -/
def sp_least_table (K : PySem.W.Frag) : Sp := fun vs H Q _ => ∃ (v : V) (t : Tb), vs = [v] ∧ Dp K H v (tabD t) ∧ Tok t ∧ ∀ (f : Nat → Nat) (s : Nat) (q : Addr) (H' : Hp), Cls t f → Sz t f s → Same H H' → Dp K H' (.ref q) (tabD (leastF t f s)) → Q (.ref q) H'
def intsV (l : List Nat) : List V := l.map fun n : Nat => V.int (n : Int)
/-- what stands behind the first part -/
structure LtA (K : PySem.W.Frag) (H' : Hp) (t : Tb) (fn : Nat → Nat) (s : Nat) (l bt d1 : Addr) : Prop where
  cls : Cls t fn
  sz : Sz t fn s
  nm : H' l = some (.lst (intsV ((List.range t.rows.length).map fn)))
  bg : SqT K H' bt (intsV (t.starts.map fn))
  sp : ∃ kvs, H' d1 = some (.dK kvs) ∧ ∀ c, valV kvs (ki c) = spotV fn (List.range t.rows.length) c
theorem LtA.same {K : PySem.W.Frag} {H1 H2 : Hp} {t : Tb} {fn : Nat → Nat} {s : Nat} {l bt d1 : Addr} (e : Same H1 H2) (h : LtA K H1 t fn s l bt d1) : LtA K H2 t fn s l bt d1 := by
  obtain ⟨kvs, h1, h2⟩ := h.sp
  exact ⟨h.cls, h.sz, e _ _ h.nm, seqT e h.bg, kvs, e _ _ h1, h2⟩
/-- what stands while the classes are walked -/
structure Wk (K : PySem.W.Frag) (H : Hp) (t : Tb) (fn : Nat → Nat) (s : Nat) (l bt d1 ol d2 : Addr) (H' : Hp) (o : List Nat) : Prop where
  ex : ∃ H6, Same H H6 ∧ LtA K H6 t fn s l bt d1 ∧ H6 ol = none ∧ H6 d2 = none ∧ ol ≠ d2 ∧ Same H6 H' ∧ H' ol = some (.lst (intsV o)) ∧ ∃ kvs, H' d2 = some (.dK kvs) ∧ ToldN kvs o
section
variable {K : PySem.W.Frag} {H H' H2 : Hp} {t : Tb} {fn : Nat → Nat} {s : Nat} {l bt d1 ol d2 : Addr} {o : List Nat}
theorem Wk.lta (h : Wk K H t fn s l bt d1 ol d2 H' o) : LtA K H' t fn s l bt d1 := by
  obtain ⟨H6, h1, h2, h3, h4, h5, h6, h7⟩ := h.ex
  exact h2.same h6
theorem Wk.same (h : Wk K H t fn s l bt d1 ol d2 H' o) : Same H H' := by
  obtain ⟨H6, h1, h2, h3, h4, h5, h6, h7⟩ := h.ex
  exact h1.trans h6
theorem Wk.ord (h : Wk K H t fn s l bt d1 ol d2 H' o) : H' ol = some (.lst (intsV o)) := by
  obtain ⟨H6, h1, h2, h3, h4, h5, h6, h7, h8⟩ := h.ex
  exact h7
theorem Wk.num (h : Wk K H t fn s l bt d1 ol d2 H' o) : ∃ kvs, H' d2 = some (.dK kvs) ∧ ToldN kvs o := by
  obtain ⟨H6, h1, h2, h3, h4, h5, h6, h7, h8⟩ := h.ex
  exact h8
theorem Wk.ne (h : Wk K H t fn s l bt d1 ol d2 H' o) : ol ≠ d2 := by
  obtain ⟨H6, h1, h2, h3, h4, h5, h6, h7, h8⟩ := h.ex
  exact h5
theorem Wk.grow (h : Wk K H t fn s l bt d1 ol d2 H' o) (e : Same H' H2) : Wk K H t fn s l bt d1 ol d2 H2 o := by
  obtain ⟨H6, h1, h2, h3, h4, h5, h6, h7, kvs, h8, h9⟩ := h.ex
  exact ⟨H6, h1, h2, h3, h4, h5, h6.trans e, e _ _ h7, kvs, e _ _ h8, h9⟩
theorem Wk.stay (h : Wk K H t fn s l bt d1 ol d2 H' o) {c : Nat} (hc : c ∈ o) : Wk K H t fn s l bt d1 ol d2 H' (fstep o c) := by
  unfold fstep
  rw [if_pos hc]
  exact h
theorem Wk.push (h : Wk K H t fn s l bt d1 ol d2 H' o) {c : Nat} (hc : c ∉ o) {kvs : List (Key × V)} (hD : H' d2 = some (.dK kvs)) (hT : ToldN kvs o) :
    Wk K H t fn s l bt d1 ol d2 (upd (upd H' d2 (.dK (putK kvs (ki c) (.int (((intsV o).length : Nat) : Int))))) ol (.lst (intsV o ++ [.int ((c : Nat) : Int)]))) (fstep o c) := by
  obtain ⟨H6, h1, h2, h3, h4, h5, h6, h7, _, _, _⟩ := h.ex
  unfold fstep
  rw [if_neg hc]
  refine ⟨H6, h1, h2, h3, h4, h5, same_mut (same_mut h6 h4) h3, ?_, _, ?_, hT.push hc⟩
  · rw [upd_same]
    unfold intsV
    rw [List.map_append]
    rfl
  · rw [upd_ne h5.symm, upd_same]
    have : (intsV o).length = kvs.length := by unfold intsV; rw [List.length_map, hT.len]
    rw [this]
theorem Wk.other (h : Wk K H t fn s l bt d1 ol d2 H' o) {q : Addr} {xs : List V} {c1 : List (Key × V)} {c2 : List V} (hq : SqT K H' q xs) : SqT K (upd (upd H' d2 (.dK c1)) ol (.lst c2)) q xs := by
  obtain ⟨H6, h1, h2, h3, h4, h5, h6, h7, kvs, h8, h9⟩ := h.ex
  rcases hq with (hq | ⟨ob, hq⟩) | hq
  · refine .inl (.inl ?_)
    have n1 : q ≠ ol := fun z => by
      rw [z, h7] at hq
      cases hq
    have n2 : q ≠ d2 := fun z => by
      rw [z, h8] at hq
      cases hq
    rw [upd_ne n1, upd_ne n2]
    exact hq
  · refine .inl (.inr ⟨ob, ?_⟩)
    have n1 : q ≠ ol := fun z => by
      rw [z, h7] at hq
      cases hq
    have n2 : q ≠ d2 := fun z => by
      rw [z, h8] at hq
      cases hq
    rw [upd_ne n1, upd_ne n2]
    exact hq
  · exact .inr hq
end
theorem slA_ok {K : PySem.W.Frag} {H : Hp} {a : Addr} {xs : List V} {s : Nat} {Q : VK} (hs : SqT K H a xs) (h0 : s ≤ xs.length) (k : ∀ q H', Same H H' → SqT K H' q (xs.take s) → Q (.ref q) H') : rSlA K (.ref a) none (some (s : Int)) H Q := by
  refine ⟨a, xs, rfl, hs, fun w => ?_, fun w q hq => ?_⟩
  · have h1 := w.2
    rw [HT.sIx_nat] at h1
    have hw : xs.take s = xs := List.take_of_length_le (by omega)
    exact k a H (Same.refl _) (by rw [hw]; exact hs)
  · have ec : cutV xs none (some (s : Int)) = xs.take s := by
      unfold cutV
      rw [HT.sIx_none, HT.sIx_nat, List.drop_zero, Nat.sub_zero, Nat.min_eq_left h0]
    rw [ec]
    exact k q _ (same_new hq) (SqT.of upd_same)
theorem dpRows {K : PySem.W.Frag} {H : Hp} {g : Nat → Nat × Nat × Bool} : ∀ {o : List Nat} {ws : List V}, ws.length = o.length → (∀ (j c : Nat), o[j]? = some c → ∃ q, ws[j]? = some (.ref q) ∧ SqT K H q [.int ((g c).1 : Int), .int ((g c).2.1 : Int), .bl (g c).2.2]) → DpAll K H ws ((o.map g).map rowD)
  | [], [], _, _ => .nil
  | [], _ :: _, h, _ => by cases h
  | _ :: _, [], h, _ => by cases h
  | c :: o, w :: ws, h, hk => by
    obtain ⟨q, h1, h2⟩ := hk 0 c rfl
    cases h1
    exact .cons (.tup h2 (.cons (.int _) (.cons (.int _) (.cons (.bl _) .nil)))) (dpRows (Nat.succ.inj h) fun j c' hc => hk (j + 1) c' hc)
theorem dpBools {K : PySem.W.Frag} {H : Hp} : ∀ l : List Bool, DpAll K H (l.map V.bl) (l.map PyData.bool)
  | [] => .nil
  | _ :: l => .cons (.bl _) (dpBools l)
theorem nmAt {N c : Nat} {fn : Nat → Nat} (hc : c < N) : atI (intsV ((List.range N).map fn)) ((c : Nat) : Int) = some (V.int ((fn c : Nat) : Int)) := atI_nat (by
  unfold intsV
  rw [List.getElem?_map, List.getElem?_map, List.getElem?_range hc]
  rfl)
theorem dpInts {K : PySem.W.Frag} {H : Hp} : ∀ l : List Nat, DpAll K H (intsV l) (l.map fun n : Nat => PyData.int (n : Int))
  | [] => .nil
  | _ :: l => .cons (.int _) (dpInts l)
theorem modsOk {t : Tb} (ok : Tok t) : t.m ∈ mods := by
  unfold mods
  rcases ok.md with e | e | e | e <;> rw [e] <;> decide
theorem rgRev {N i : Nat} (hi : i < N) : (rgV 0 ((N : Nat) : Int)).reverse[i]? = some (V.int ((N - 1 - i : Nat) : Int)) := by
  have l1 : (rgV 0 ((N : Nat) : Int)).length = N := by rw [rgV_length]; omega
  rw [List.getElem?_reverse (by omega), l1]
  unfold rgV
  rw [List.getElem?_map, List.getElem?_range (by omega)]
  show some (V.int (0 + _)) = _
  rw [Int.zero_add]

theorem sc_least_table : FnScope ["table", "modulus", "flats", "steeps", "starts", "rows", "names", "begun", "one", "size", "spots", "spot", "order", "numbers", "name", "at", "made", "x", "y", "good"] ["table"] (defScope s_least_table) := ⟨rfl, rfl, rfl, by decide +kernel, rfl, by decide +kernel, by decide +kernel⟩
theorem ok_least_table (E : En K mg) (G_least_modulus : Good P w K mg base CX0 1 "least_modulus" ["modulus", "parts"] (sp_least_modulus K)) (G_classes_of : Good P w K mg base CX0 2 "classes_of" ["rows"] (sp_classes_of K)) : Good P w K mg base CX0 3 "least_table" ["table"] (sp_least_table K) := by
  obtain ⟨fd, F⟩ := E.says.def_ 7 (d := d_least_table) rfl
  refine ⟨fd, ?_, F.bindsN fun _ _ _ _ _ _ us hl => match us, hl with | [_], _ => rfl, F.kp, E.gl "least_table"⟩
  refine F.ok sc_least_table (fun vs H Q E' h => ?_) (fun cdv A outer s H vs Q E' hr h => ?_)
  · obtain ⟨v, t, rfl, _⟩ := h; rfl
  · have hu64 := hu64_of hr
    refine ⟨_, PSs.nox (pss_cons (ps_asg (pv 0) (pg_tup rfl (pgs_cons (pg_name (i := 1) sc_least_table.nd rfl (by first | exact Or.inl rfl | exact Or.inr rfl)) (pgs_cons (pg_name (i := 2) sc_least_table.nd rfl (by first | exact Or.inl rfl | exact Or.inr rfl)) (pgs_cons (pg_name (i := 3) sc_least_table.nd rfl (by first | exact Or.inl rfl | exact Or.inr rfl)) (pgs_cons (pg_name (i := 4) sc_least_table.nd rfl (by first | exact Or.inl rfl | exact Or.inr rfl)) (pgs_cons (pg_name (i := 5) sc_least_table.nd rfl (by first | exact Or.inl rfl | exact Or.inr rfl)) pgs_nil)))))))
      (pss_cons (ps_set (i := 6) sc_least_table.nd rfl (by first | exact Or.inl rfl | exact Or.inr rfl) (pe_G G_classes_of (hr.mono (by decide)) rfl pass0 (pa_cons (pv 5) pa_nil)))
      (pss_cons (ps_set (i := 7) sc_least_table.nd rfl (by first | exact Or.inl rfl | exact Or.inr rfl) (pe_callTy call_tuple_of (by rfl) (E.fr "tuple") (by decide +kernel) (pa_cons (pe_lc (own := [("one", 8)]) (by rfl) sc_least_table.nd (pi_tup (pv 4)) (blkOk_by (N := ["table", "modulus", "flats", "steeps", "starts", "rows", "names", "begun", "one", "size", "spots", "spot", "order", "numbers", "name", "at", "made", "x", "y", "good"]) (sc := defScope s_least_table) (by decide +kernel)) (by exact fun _ _ _ _ _ => (pg_name (i := 8) sc_least_table.nd rfl (by first | exact Or.inl rfl | exact Or.inr rfl))) (by exact fun _ _ _ _ _ => pts_nil) (by exact fun _ _ _ _ _ => (pe_ix (show IxR _ (rIxL K) from ix_list) (pv 6) (pv 8) (fun _ _ => rfl)))) pa_nil)))
      (pss_cons (ps_set (i := 9) sc_least_table.nd rfl (by first | exact Or.inl rfl | exact Or.inr rfl) (pe_G G_least_modulus (hr.mono (by decide)) rfl pass0 (pa_cons (pv 1) (pa_cons (pe_lst (pa_cons (pv 2) (pa_cons (pv 3) (pa_cons (pv 7) pa_nil)))) pa_nil))))
      (C8.pss_cut (ps_set (i := 10) sc_least_table.nd rfl (by first | exact Or.inl rfl | exact Or.inr rfl) (pe_dc (own := [("spot", 11)]) (by rfl) sc_least_table.nd (pi_list (pe_revL (pe_listRg rfl (by rfl) (E.fr "list") (prg_1 (by rfl) (E.fr "range") (pe_callB call_len_seq (by rfl) (E.fr "len") (by decide +kernel) (pa_cons (pv 6) pa_nil)))))) (blkOk_by (N := ["table", "modulus", "flats", "steeps", "starts", "rows", "names", "begun", "one", "size", "spots", "spot", "order", "numbers", "name", "at", "made", "x", "y", "good"]) (sc := defScope s_least_table) (by decide +kernel)) (by exact fun _ _ _ _ _ => (pg_name (i := 11) sc_least_table.nd rfl (by first | exact Or.inl rfl | exact Or.inr rfl))) (by exact fun _ _ _ _ _ => pts_nil) (by exact fun _ _ _ _ _ => (pe_ix (show IxR _ (rIxL K) from ix_list) (pv 6) (pv 11) (fun _ _ => rfl))) (by exact fun _ _ _ _ _ => (pv 11))))
      (pss_cons (ps_set (i := 12) sc_least_table.nd rfl (by first | exact Or.inl rfl | exact Or.inr rfl) (pe_lst pa_nil))
      (pss_cons (ps_set (i := 13) sc_least_table.nd rfl (by first | exact Or.inl rfl | exact Or.inr rfl) pe_dnewK)
      (C8.pss_cut (ps_for PassesOwn.never rfl (pi_tup (pe_slice (show SlR _ (rSlA K) from sl_tupA) (pv 7) po_none (po_some (pv 9)))) (pg_name (i := 14) sc_least_table.nd rfl (by first | exact Or.inl rfl | exact Or.inr rfl))
        (pss_one (ps_if (pt_cmp (pc_dnotin (hu_of hr) (pv 14) (pv 13)))
        (pss_cons (ps_dput (hu_of hr) (pv 13) (pv 14) (pe_callB call_len_seq (by rfl) (E.fr "len") (by decide +kernel) (pa_cons (pv 12) pa_nil)) rfl)
      (pss_one (ps_expr (pe_bm PySem.F.plainAttrs_list PySem.F.slot_list_append PySem.F.type_list_append mt_append (pv 12) (pa_cons (pv 14) pa_nil)))))
        pss_nil)))
      (pss_cons (ps_set (i := 15) sc_least_table.nd rfl (by first | exact Or.inl rfl | exact Or.inr rfl) pe_int)
      (C8.pss_cut (ps_while PassesOwn.never (pt_cmpR op_lt (pv 15) (pe_callB call_len_seq (by rfl) (E.fr "len") (by decide +kernel) (pa_cons (pv 12) pa_nil)) (nomark _))
        (pss_cons (ps_for PassesOwn.never rfl (pi_tup (pe_slice sl_tup (pe_ix ix_tup (pv 5) (pe_dget (hu_of hr) (pv 10) (pe_ix ix_list (pv 12) (pv 15) (fun _ _ => rfl)) (fun _ _ => rfl)) (fun _ _ => rfl)) po_none (po_some pe_int))) (pg_name (i := 11) sc_least_table.nd rfl (by first | exact Or.inl rfl | exact Or.inr rfl))
        (pss_one (ps_if (pt_cmp (pc_dnotin (hu_of hr) (pe_ix ix_list (pv 6) (pv 11) (fun _ _ => rfl)) (pv 13)))
        (pss_cons (ps_dput (hu_of hr) (pv 13) (pe_ix ix_list (pv 6) (pv 11) (fun _ _ => rfl)) (pe_callB call_len_seq (by rfl) (E.fr "len") (by decide +kernel) (pa_cons (pv 12) pa_nil)) rfl)
      (pss_one (ps_expr (pe_bm PySem.F.plainAttrs_list PySem.F.slot_list_append PySem.F.type_list_append mt_append (pv 12) (pa_cons (pe_ix ix_list (pv 6) (pv 11) (fun _ _ => rfl)) pa_nil)))))
        pss_nil)))
      (pss_one (ps_set (i := 15) sc_least_table.nd rfl (by first | exact Or.inl rfl | exact Or.inr rfl) (pe_op op_add (pv 15) pe_int)))))
      (C8.pss_cut (ps_setLc (i := 16) (own := [("x", 17), ("y", 18), ("good", 19)]) (by rfl) sc_least_table.nd rfl rfl (sw_true rfl rfl rfl (by decide +kernel)) (pi_list (pe_lc (own := [("name", 14)]) (by rfl) sc_least_table.nd (pi_list (pv 12)) (blkOk_by (N := ["table", "modulus", "flats", "steeps", "starts", "rows", "names", "begun", "one", "size", "spots", "spot", "order", "numbers", "name", "at", "made", "x", "y", "good"]) (sc := defScope s_least_table) (by decide +kernel)) (by exact fun _ _ _ _ _ => (pg_name (i := 14) sc_least_table.nd rfl (by first | exact Or.inl rfl | exact Or.inr rfl))) (by exact fun _ _ _ _ _ => pts_nil) (by exact fun _ _ _ _ _ => (pe_ix (show IxR _ (rIxT K) from ix_tup) (pv 5) (pe_dget (hu_of hr) (pv 10) (pv 14) (fun _ _ => rfl)) (fun _ _ => rfl))))) (blkOk_by (N := ["table", "modulus", "flats", "steeps", "starts", "rows", "names", "begun", "one", "size", "spots", "spot", "order", "numbers", "name", "at", "made", "x", "y", "good"]) (sc := defScope s_least_table) (by decide +kernel)) (by exact fun _ _ _ _ _ => (show PG _ _ (gTup K 3 _) from pg_tup (n := 3) rfl (pgs_cons (pg_name (i := 17) sc_least_table.nd rfl (by first | exact Or.inl rfl | exact Or.inr rfl)) (pgs_cons (pg_name (i := 18) sc_least_table.nd rfl (by first | exact Or.inl rfl | exact Or.inr rfl)) (pgs_cons (pg_name (i := 19) sc_least_table.nd rfl (by first | exact Or.inl rfl | exact Or.inr rfl)) pgs_nil))))) (by exact fun _ _ _ _ _ => pts_nil) (by exact fun _ _ _ _ _ => (pe_tup (pa_cons (pe_dget (hu_of hr) (pv 13) (pe_ix (show IxR _ (rIxL K) from ix_list) (pv 6) (pv 17) (fun _ _ => rfl)) (fun _ _ => rfl)) (pa_cons (pe_dget (hu_of hr) (pv 13) (pe_ix (show IxR _ (rIxL K) from ix_list) (pv 6) (pv 18) (fun _ _ => rfl)) (fun _ _ => rfl)) (pa_cons (pv 19) pa_nil))))))
      (pss_one (ps_ret (pe_tup (pa_cons (pv 9) (pa_cons (pe_slice (show SlR _ (rSlA K) from sl_tupA) (pv 2) po_none (po_some (pv 9))) (pa_cons (pe_slice (show SlR _ (rSlA K) from sl_tupA) (pv 3) po_none (po_some (pv 9))) (pa_cons (pe_callTy call_tuple_of (by rfl) (E.fr "tuple") (by decide +kernel) (pa_cons (pe_lc (own := [("name", 14)]) (by rfl) sc_least_table.nd (pi_tup (pe_slice (show SlR _ (rSlA K) from sl_tupA) (pv 7) po_none (po_some (pv 9)))) (blkOk_by (N := ["table", "modulus", "flats", "steeps", "starts", "rows", "names", "begun", "one", "size", "spots", "spot", "order", "numbers", "name", "at", "made", "x", "y", "good"]) (sc := defScope s_least_table) (by decide +kernel)) (by exact fun _ _ _ _ _ => (pg_name (i := 14) sc_least_table.nd rfl (by first | exact Or.inl rfl | exact Or.inr rfl))) (by exact fun _ _ _ _ _ => pts_nil) (by exact fun _ _ _ _ _ => (pe_dget (hu_of hr) (pv 13) (pv 14) (fun _ _ => rfl)))) pa_nil)) (pa_cons (pe_callTy call_tuple_of (by rfl) (E.fr "tuple") (by decide +kernel) (pa_cons (pv 16) pa_nil)) pa_nil))))))))))))))))))), ?_⟩
    obtain ⟨v, t, rfl, hD, ok, k⟩ := h
    obtain ⟨a, f, st, b, r, rfl, T⟩ := Dp.tab hD
    obtain ⟨ra, us, rfl, hR, hl, hrow⟩ := Dp.rows T.rd
    obtain ⟨ba, rfl, hB⟩ := Dp.nats T.bd
    have m0 := ok.m0
    have r1 := ok.r1
    -- modulus, flats, steeps, starts, rows = table
    refine ⟨_, rfl, a, _, rfl, T.sq, rfl, _, _, rfl, _, _, rfl, _, _, rfl, _, _, rfl, _, _, rfl, rfl, ?_⟩
    -- names = classes_of(rows)
    refine ⟨_, rfl, .ref ra, t, rfl, T.rd, ok, fun fn l H1 cl hl0 e1 hL => ?_⟩
    have hL : H1 l = some (.lst (intsV ((List.range t.rows.length).map fn))) := by
      rw [hL]
      unfold intsV
      rw [List.map_map]
      rfl
    -- begun = tuple([names[one] for one in starts])
    have hB1 := seqT e1 hB
    refine ⟨_, rfl, ba, rfl, ⟨_, hB1⟩, fun D hD0 => ?_⟩
    refine lc_tup (K := K) (a := ba) (xs := t.starts.map fun n : Nat => V.int (n : Int)) (fun i H' => Same H1 H' ∧ H' D = some (.lst (intsV ((t.starts.take i).map fn)))) ⟨same_new hD0, upd_same⟩ (fun i H' _ q => seqT q.1 hB1) ?_ ?_
    · rintro i z H2 hz ⟨e2, g1⟩
      rw [List.getElem?_map] at hz
      obtain ⟨c, hc, rfl⟩ := Option.map_eq_some_iff.mp hz
      have hi : i < t.starts.length := (List.getElem?_eq_some_iff.mp hc).1
      have hcN := ok.st c (List.mem_of_getElem? hc)
      refine ⟨rfl, _, rfl, _, rfl, l, _, _, _, rfl, rfl, SqL.of (e2 _ _ hL), nmAt hcN, _, g1, ?_, same_mut e2 hD0, ?_⟩
      · unfold intsV
        rw [List.length_map, List.length_map, List.length_take]
        have := ok.tl
        exact szl (by omega)
      · unfold intsV
        rw [upd_same, List.take_add_one, hc, List.map_append, List.map_append]
        rfl
    rintro H2 ⟨e2, g1⟩
    rw [List.length_map, List.take_length] at g1
    refine ⟨D, _, rfl, .inl ⟨SqL.of g1, fun bt hbt => ?_⟩⟩
    have e3 : Same H2 (upd H2 bt (.tup (intsV (t.starts.map fn)))) := same_new hbt
    have hBt : (upd H2 bt (.tup (intsV (t.starts.map fn)))) bt = some (.tup (intsV (t.starts.map fn))) := upd_same
    generalize upd H2 bt (.tup (intsV (t.starts.map fn))) = H3 at *
    -- size = least_modulus(modulus, [flats, steeps, begun])
    refine ⟨_, rfl, _, rfl, _, rfl, _, rfl, (by show 3 ≤ sizeLine; decide), fun pl hpl => ?_⟩
    have e4 : Same H3 (upd H3 pl (.lst [f, st, .ref bt])) := same_new hpl
    have hPl : (upd H3 pl (.lst [f, st, .ref bt])) pl = some (.lst [f, st, .ref bt]) := upd_same
    generalize upd H3 pl (.lst [f, st, .ref bt]) = H4 at *
    have e14 := (e2.trans e3).trans e4
    have e04 := e1.trans e14
    refine ⟨t.m, pl, _, partsD t fn, rfl, SqL.of hPl, ?_, (by show 3 ≤ 9; decide), ?_, modsOk ok, fun H5 e5 => ?_⟩
    · refine .cons (Dp.same e04 T.fd) (.cons (Dp.same e04 T.sd) (.cons (.tup (seqT e4 (SqT.of hBt)) ?_) .nil))
      exact dpInts _
    · intro ds hds
      unfold partsD at hds
      rcases List.mem_cons.mp hds with e | hds
      · subst e
        exact ⟨by rw [List.length_map, ok.fl], fun d hd => by
          obtain ⟨x, _, rfl⟩ := List.mem_map.mp hd
          exact ⟨rfl, rfl⟩⟩
      rcases List.mem_cons.mp hds with e | hds
      · subst e
        exact ⟨by rw [List.length_map, ok.sl], fun d hd => by
          obtain ⟨x, _, rfl⟩ := List.mem_map.mp hd
          exact ⟨rfl, rfl⟩⟩
      rw [List.mem_singleton] at hds
      subst hds
      exact ⟨by rw [List.length_map, List.length_map, ok.tl], fun d hd => by
        obtain ⟨x, _, rfl⟩ := List.mem_map.mp hd
        exact ⟨rfl, rfl⟩⟩
    have hs : Sz t fn (leastD (partsD t fn) t.m) := leastD_sz ok
    generalize leastD (partsD t fn) t.m = s at *
    have e15 := e14.trans e5
    have e05 := e04.trans e5
    have hL5 := e15 _ _ hL
    -- spots = {names[spot]: spot for spot in list(range(len(names)))[::-1]}
    refine ⟨fun σ H' => ∃ (bt d1 : Addr), σ = [some (.ref a), some (.int (t.m : Int)), some f, some st, some (.ref ba), some (.ref ra), some (.ref l), some (.ref bt), none, some (.int (s : Int)), some (.ref d1), none, none, none, none, none, none, none, none, none] ∧ Same H H' ∧ LtA K H' t fn s l bt d1, ?_, ?_⟩
    · have ln : (intsV ((List.range t.rows.length).map fn)).length = t.rows.length := by unfold intsV; rw [List.length_map, List.length_map, List.length_range]
      refine ⟨_, rfl, l, _, rfl, .inl (SqL.of hL5), _, rfl, (by rw [ln]; exact RgOk.of_le (by omega) (by omega) (by omega) (by omega)), fun q1 hq1 => ?_⟩
      refine ⟨q1, _, rfl, SqL.of upd_same, fun q2 hq2 => ?_⟩
      have e6 := (same_new (o := .lst (rgV 0 ((intsV ((List.range t.rows.length).map fn)).length : Int))) hq1).trans (same_new (o := .lst (rgV 0 ((intsV ((List.range t.rows.length).map fn)).length : Int)).reverse) hq2)
      have hq : (upd (upd H5 q1 (.lst (rgV 0 ((intsV ((List.range t.rows.length).map fn)).length : Int)))) q2 (.lst (rgV 0 ((intsV ((List.range t.rows.length).map fn)).length : Int)).reverse)) q2 = some (.lst (rgV 0 ((intsV ((List.range t.rows.length).map fn)).length : Int)).reverse) := upd_same
      generalize upd (upd H5 q1 (.lst (rgV 0 ((intsV ((List.range t.rows.length).map fn)).length : Int)))) q2 (.lst (rgV 0 ((intsV ((List.range t.rows.length).map fn)).length : Int)).reverse) = H6 at *
      rw [ln] at hq
      have hxs : ∀ i, i < t.rows.length → (rgV 0 ((t.rows.length : Nat) : Int)).reverse[i]? = some (V.int ((t.rows.length - 1 - i : Nat) : Int)) := fun i hi => rgRev hi
      have lxs : (rgV 0 ((t.rows.length : Nat) : Int)).reverse.length = t.rows.length := by
        rw [List.length_reverse, rgV_length]
        omega
      generalize (rgV 0 ((t.rows.length : Nat) : Int)).reverse = xs at *
      refine ⟨q2, rfl, ⟨_, SqL.of hq⟩, fun D2 hD2 => ?_⟩
      refine dc_it (walk_list (K := K) (a := q2) (xs := xs)) (fun i H' => Same H6 H' ∧ ∃ kvs, H' D2 = some (.dK kvs) ∧ kvs.length ≤ i ∧ ∀ c, valV kvs (ki c) = spotV fn ((List.range t.rows.length).drop (t.rows.length - i)) c)
        ⟨same_new hD2, [], upd_same, Nat.le_refl _, fun c => ?_⟩ (fun i H' _ q => SqL.of (q.1 _ _ hq)) ?_ ?_
      · rw [Nat.sub_zero, List.drop_eq_nil_of_le (by rw [List.length_range]; exact Nat.le_refl _)]
        rfl
      · rintro i x H7 H8 hi ⟨e7, kvs, g1, g2, g3⟩ ⟨rfl, hx⟩
        rw [lxs] at hi
        rw [hxs i hi] at hx
        cases hx
        refine ⟨rfl, _, rfl, _, rfl, l, _, _, _, rfl, rfl, SqL.of ((e6.trans e7) _ _ hL5), nmAt (by omega), _, rfl, kvs, ki (fn (t.rows.length - 1 - i)), rfl, g1, szl (by omega), same_mut e7 hD2, _, upd_same, ?_, fun c => ?_⟩
        · have := length_putK kvs (ki (fn (t.rows.length - 1 - i))) (.int ((t.rows.length - 1 - i : Nat) : Int))
          omega
        · have ed : (List.range t.rows.length).drop (t.rows.length - (i + 1)) = (t.rows.length - 1 - i) :: (List.range t.rows.length).drop (t.rows.length - i) := by
            have h1 : t.rows.length - (i + 1) < (List.range t.rows.length).length := by rw [List.length_range]; omega
            rw [List.drop_eq_getElem_cons h1, List.getElem_range]
            congr 1
            · omega
            · congr 1
              omega
          rw [valV_put, g3, ed, spotV_cons]
          by_cases z : c = fn (t.rows.length - 1 - i)
          · rw [if_pos (ki_inj.mpr z), if_pos z]
          · rw [if_neg (fun y => z (ki_inj.mp y)), if_neg z]
      · rintro H7 ⟨e7, kvs, g1, g2, g3⟩
        rw [lxs, Nat.sub_self, List.drop_zero] at g3
        have e57 := e6.trans e7
        exact ⟨bt, D2, rfl, e05.trans e57, cl, hs, e57 _ _ hL5, seqT (e5.trans e57) (seqT e4 (SqT.of hBt)), kvs, g1, g3⟩
    rintro σ H6 ⟨bt, d1, rfl, e6, A6⟩
    have spos := mods_pos hs.md
    have sle := hs.le ok
    have lbeg : (intsV (t.starts.map fn)).length = t.m := by unfold intsV; rw [List.length_map, List.length_map, ok.tl]
    have obeg : Ordl t fn (firsts (begF t fn s)) := ordl_firsts ok
    -- order = [] ; numbers = {}
    refine ⟨(by show 0 ≤ sizeLine; decide), fun ol hol => ?_⟩
    refine fun d2 hd2 => ?_
    have W0 : Wk K H t fn s l bt d1 ol d2 (upd (upd H6 ol (.lst [])) d2 (.dK [])) [] := by
      have nod : ol ≠ d2 := fun z => by
        rw [← z, upd_same] at hd2
        cases hd2
      refine ⟨H6, e6, A6, hol, ?_, nod, (same_new hol).trans (same_new hd2), ?_, [], upd_same, ToldN.nil⟩
      · rw [upd_ne nod.symm] at hd2
        exact hd2
      · rw [upd_ne nod, upd_same]
        rfl
    generalize upd (upd H6 ol (.lst [])) d2 (.dK []) = H7 at *
    -- for name in begun[:size]
    refine ⟨fun σ H' => ∃ (s14 : Option V), σ = [some (.ref a), some (.int (t.m : Int)), some f, some st, some (.ref ba), some (.ref ra), some (.ref l), some (.ref bt), none, some (.int (s : Int)), some (.ref d1), none, some (.ref ol), some (.ref d2), s14, none, none, none, none, none] ∧ Wk K H t fn s l bt d1 ol d2 H' (firsts (begF t fn s)), ?_, ?_⟩
    · refine ⟨_, rfl, _, rfl, _, rfl, ?_⟩
      refine slA_ok W0.lta.bg (by rw [lbeg]; exact sle) fun q H8 e8 hq => ?_
      have eb : (intsV (t.starts.map fn)).take s = intsV (begF t fn s) := by unfold intsV begF; rw [List.map_take]
      rw [eb] at hq
      refine ⟨q, rfl, ⟨_, hq⟩, for_tup (K := K) (a := q) (xs := intsV (begF t fn s)) (fun i σ H' => ∃ (s14 : Option V), σ = [some (.ref a), some (.int (t.m : Int)), some f, some st, some (.ref ba), some (.ref ra), some (.ref l), some (.ref bt), none, some (.int (s : Int)), some (.ref d1), none, some (.ref ol), some (.ref d2), s14, none, none, none, none, none] ∧ Wk K H t fn s l bt d1 ol d2 H' (firsts ((begF t fn s).take i)) ∧ SqT K H' q (intsV (begF t fn s)))
        ⟨_, rfl, W0.grow e8, hq⟩ (fun i σ H' _ ⟨_, _, _, z⟩ => z) ?_ ?_⟩
      · rintro i z σ H9 hz ⟨s14, rfl, W9, hq9⟩
        have hz2 := hz
        unfold intsV at hz2
        rw [List.getElem?_map] at hz2
        obtain ⟨c, hc, rfl⟩ := Option.map_eq_some_iff.mp hz2
        rw [firsts_take hc]
        have hln := numb_len ((begF t fn s).take i) []
        have hlb : ((begF t fn s).take i).length ≤ t.m := by
          unfold begF
          rw [List.length_take, List.length_take, List.length_map, ok.tl]
          omega
        have hln : (firsts ((begF t fn s).take i)).length ≤ 0 + ((begF t fn s).take i).length := hln
        generalize firsts ((begF t fn s).take i) = acc at *
        obtain ⟨kvs, hN, hT⟩ := W9.num
        have hO := W9.ord
        have tl := hT.len
        have il : (intsV acc).length = acc.length := by unfold intsV; rw [List.length_map]
        -- if name not in numbers
        refine ⟨_, rfl, _, rfl, d2, _, rfl, DGet.k (k := ki c) hN, _, rfl, ?_⟩
        rw [hT.val]
        by_cases hm : c ∈ acc
        · rw [if_pos hm]
          exact ite_f rfl ⟨_, rfl, W9.stay hm, hq9⟩
        · rw [if_neg hm]
          refine ite_t rfl ⟨_, rfl, ol, _, rfl, .inl (SqL.of hO), _, rfl, _, rfl, d2, _, rfl, DPut.k (k := ki c) hN (szl (by omega)), ?_⟩
          have no : ol ≠ d2 := W9.ne
          refine ⟨_, rfl, .inl ⟨rfl, _, SqL.of (by rw [upd_ne no]; exact hO)⟩, _, rfl, ol, _, _, rfl, rfl, (by rw [upd_ne no]; exact hO), szl (by omega), ?_⟩
          exact ⟨_, rfl, W9.push hm hN hT, W9.other hq9⟩
      · rintro σ H9 ⟨s14, rfl, W9, hq9⟩
        have : (intsV (begF t fn s)).length = (begF t fn s).length := by unfold intsV; rw [List.length_map]
        rw [this, List.take_length] at W9
        exact ⟨_, rfl, W9⟩
    rintro σ H8 ⟨s14, rfl, W8⟩
    -- at = 0 ; while at < len(order)
    have hR8 := fun {H' : Hp} (e : Same H H') => seqT e hR
    have lnk : ∀ k, (ordK t fn (firsts (begF t fn s)) k).length ≤ t.rows.length := fun k => (obeg.ordK ok k).len cl
    refine ⟨fun σ H' => ∃ (s11 s14 : Option V) (at_ : Nat), σ = [some (.ref a), some (.int (t.m : Int)), some f, some st, some (.ref ba), some (.ref ra), some (.ref l), some (.ref bt), none, some (.int (s : Int)), some (.ref d1), s11, some (.ref ol), some (.ref d2), s14, some (.int (at_ : Int)), none, none, none, none] ∧ Wk K H t fn s l bt d1 ol d2 H' (ordF t fn s), ?_, ?_⟩
    · refine ⟨fun m σ H' => ∃ (n : Nat) (s11 s14 : Option V), m = t.rows.length - n ∧ n ≤ t.rows.length ∧ σ = [some (.ref a), some (.int (t.m : Int)), some f, some st, some (.ref ba), some (.ref ra), some (.ref l), some (.ref bt), none, some (.int (s : Int)), some (.ref d1), s11, some (.ref ol), some (.ref d2), s14, some (.int (n : Int)), none, none, none, none] ∧ Wk K H t fn s l bt d1 ol d2 H' (ordK t fn (firsts (begF t fn s)) n),
        ⟨_, 0, _, _, rfl, Nat.zero_le _, rfl, W8⟩, ?_⟩
      rintro m σ H9 ⟨n, s11, s14, rfl, hn, rfl, W9⟩
      have hO := W9.ord
      have il : ∀ acc : List Nat, (intsV acc).length = acc.length := fun acc => by unfold intsV; rw [List.length_map]
      refine ⟨_, rfl, _, rfl, ol, _, rfl, .inl (SqL.of hO), _, _, rfl, rfl, _, rfl, ?_⟩
      rw [il]
      by_cases hlt : n < (ordK t fn (firsts (begF t fn s)) n).length
      rotate_left
      · refine ite_f (decide_eq_false (by omega)) ?_
        have e := ordK_end obeg ok cl (k := n) (by omega)
        rw [e] at W9
        exact ⟨_, _, n, rfl, W9⟩
      refine ite_t (decide_eq_true (by omega)) ⟨fun σ' H'' => ∃ m', m' < t.rows.length - n ∧ ∃ (n : Nat) (s11 s14 : Option V), m' = t.rows.length - n ∧ n ≤ t.rows.length ∧ σ' = [some (.ref a), some (.int (t.m : Int)), some f, some st, some (.ref ba), some (.ref ra), some (.ref l), some (.ref bt), none, some (.int (s : Int)), some (.ref d1), s11, some (.ref ol), some (.ref d2), s14, some (.int (n : Int)), none, none, none, none] ∧ Wk K H t fn s l bt d1 ol d2 H'' (ordK t fn (firsts (begF t fn s)) n), fun _ _ q => q, ?_⟩
      have hcn := List.getElem?_eq_getElem hlt
      have oK := obeg.ordK ok n
      have eN : ordK t fn (firsts (begF t fn s)) (n + 1) = ordS t fn (ordK t fn (firsts (begF t fn s)) n) n := rfl
      have lK := lnk n
      have eS : ordS t fn (ordK t fn (firsts (begF t fn s)) n) n = fstep (fstep (ordK t fn (firsts (begF t fn s)) n) (fn (goT t (spF fn t.rows.length (ordK t fn (firsts (begF t fn s)) n)[n]) true))) (fn (goT t (spF fn t.rows.length (ordK t fn (firsts (begF t fn s)) n)[n]) false)) := by
        unfold ordS
        rw [hcn]
      rw [eS] at eN
      have hcm := List.getElem_mem hlt
      generalize (ordK t fn (firsts (begF t fn s)) n)[n] = c at *
      have hsp := oK.sp hcm
      obtain ⟨kv1, hS1, hS2⟩ := W9.lta.sp
      have hv := spotV_sp (oK.im c hcm)
      have hr := List.getElem?_eq_getElem hsp.1
      have go : goT t (spF fn t.rows.length c) true = t.rows[spF fn t.rows.length c].1 ∧ goT t (spF fn t.rows.length c) false = t.rows[spF fn t.rows.length c].2.1 := by
        unfold goT
        rw [hr]
        exact ⟨rfl, rfl⟩
      have b1 := ok.rw1 _ (List.getElem_mem hsp.1)
      have b2 := ok.rw2 _ (List.getElem_mem hsp.1)
      obtain ⟨p, hp, hP⟩ := hrow _ _ hr
      rw [go.1, go.2] at eN
      generalize t.rows[spF fn t.rows.length c] = rw' at *
      have hP9 := seqT W9.same hP
      -- for spot in rows[spots[order[at]]][:2]
      refine ⟨_, rfl, _, rfl, _, rfl, _, rfl, ol, _, _, _, rfl, rfl, SqL.of hO, atI_nat (by unfold intsV; rw [List.getElem?_map, hcn]; rfl), d1, _, rfl, ?_, ra, _, _, _, rfl, rfl, hR8 W9.same, atI_nat hp, _, rfl, p, _, rfl, hP9, ?_, fun q hq => ?_⟩
      · have dg := DGet.k (k := ki c) hS1
        rw [hS2, hv] at dg
        exact dg
      · show ¬ (HT.sIx 3 0 none = 0 ∧ HT.sIx 3 3 (some 2) = 3)
        decide +kernel
      have ec : cutV [V.int (rw'.1 : Int), V.int (rw'.2.1 : Int), V.bl rw'.2.2] none (some 2) = intsV [rw'.1, rw'.2.1] := rfl
      rw [ec]
      have Wq := W9.grow (same_new (o := .tup (intsV [rw'.1, rw'.2.1])) hq)
      have hqq : SqT K (upd H9 q (.tup (intsV [rw'.1, rw'.2.1]))) q (intsV [rw'.1, rw'.2.1]) := SqT.of upd_same
      generalize upd H9 q (.tup (intsV [rw'.1, rw'.2.1])) = H10 at *
      generalize ordK t fn (firsts (begF t fn s)) n = o9 at *
      refine ⟨q, rfl, ⟨_, hqq⟩, for_tup (K := K) (a := q) (xs := intsV [rw'.1, rw'.2.1]) (fun i σ H' => ∃ (s11 : Option V), σ = [some (.ref a), some (.int (t.m : Int)), some f, some st, some (.ref ba), some (.ref ra), some (.ref l), some (.ref bt), none, some (.int (s : Int)), some (.ref d1), s11, some (.ref ol), some (.ref d2), s14, some (.int (n : Int)), none, none, none, none] ∧ Wk K H t fn s l bt d1 ol d2 H' ((([rw'.1, rw'.2.1].map fn).take i).foldl fstep o9) ∧ SqT K H' q (intsV [rw'.1, rw'.2.1]) ∧ ((([rw'.1, rw'.2.1].map fn).take i).foldl fstep o9).length ≤ t.rows.length + i)
        ⟨_, rfl, Wq, hqq, by show o9.length ≤ _; omega⟩ (fun i σ H' _ ⟨_, _, _, z, _⟩ => z) ?_ ?_⟩
      · rintro i z σ H11 hz ⟨s11', rfl, W11, hq11, hl11⟩
        have hz2 := hz
        unfold intsV at hz2
        rw [List.getElem?_map] at hz2
        obtain ⟨e, he, rfl⟩ := Option.map_eq_some_iff.mp hz2
        have hel : e < t.rows.length := by
          have hm := List.mem_of_getElem? he
          rcases List.mem_cons.mp hm with z | z
          · rw [z]; exact b1
          · rw [List.mem_singleton.mp z]; exact b2
        have etk : (([rw'.1, rw'.2.1].map fn).take (i + 1)).foldl fstep o9 = fstep ((([rw'.1, rw'.2.1].map fn).take i).foldl fstep o9) (fn e) := by
          rw [List.take_add_one, List.getElem?_map, he]
          show List.foldl fstep o9 (_ ++ [fn e]) = _
          rw [List.foldl_append]
          rfl
        rw [etk]
        have hi2 : i < 2 := (List.getElem?_eq_some_iff.mp he).1
        generalize (([rw'.1, rw'.2.1].map fn).take i).foldl fstep o9 = acc at *
        have hlf : (fstep acc (fn e)).length ≤ t.rows.length + (i + 1) := by
          unfold fstep
          split
          · omega
          · rw [List.length_append]
            show acc.length + 1 ≤ _
            omega
        obtain ⟨kvs, hN, hT⟩ := W11.num
        have hO11 := W11.ord
        have tl := hT.len
        have il' := il acc
        have no := W11.ne
        have hL11 := W11.lta.nm
        -- if names[spot] not in numbers
        refine ⟨_, rfl, _, rfl, l, _, _, _, rfl, rfl, SqL.of hL11, nmAt hel, _, rfl, d2, _, rfl, DGet.k (k := ki (fn e)) hN, _, rfl, ?_⟩
        rw [hT.val]
        by_cases hm : fn e ∈ acc
        · rw [if_pos hm]
          exact ite_f rfl ⟨_, rfl, W11.stay hm, hq11, hlf⟩
        · rw [if_neg hm]
          refine ite_t rfl ⟨_, rfl, ol, _, rfl, .inl (SqL.of hO11), _, rfl, _, rfl, _, rfl, l, _, _, _, rfl, rfl, SqL.of hL11, nmAt hel, d2, _, rfl, DPut.k (k := ki (fn e)) hN (szl (by omega)), ?_⟩
          have Wp := W11.push hm hN hT
          have nl : l ≠ d2 := fun z => by
            rw [z] at hL11
            rw [hN] at hL11
            cases hL11
          refine ⟨_, rfl, .inl ⟨rfl, _, SqL.of (by rw [upd_ne no]; exact hO11)⟩, _, rfl, _, rfl, l, _, _, _, rfl, rfl, SqL.of (by rw [upd_ne nl]; exact hL11), nmAt hel, ol, _, _, rfl, rfl, (by rw [upd_ne no]; exact hO11), szl (by omega), ?_⟩
          exact ⟨_, rfl, Wp, W11.other hq11, hlf⟩
      · rintro σ H11 ⟨s11', rfl, W11, hq11, hl11⟩
        have W12 : Wk K H t fn s l bt d1 ol d2 H11 (ordK t fn (firsts (begF t fn s)) (n + 1)) := by
          rw [eN]
          exact W11
        refine ⟨_, rfl, _, _, rfl, rfl, _, ?_, n + 1, _, _, rfl, by omega, rfl, W12⟩
        omega
    rintro σ H9 ⟨s11, s14, at_, rfl, W9⟩
    have oF : Ordl t fn (ordF t fn s) := ordF_l ok
    have lF := oF.len cl
    have hO := W9.ord
    have e9 := W9.same
    have closed : ∀ c, c ∈ ordF t fn s → ∀ b, fn (goT t (spF fn t.rows.length c) b) ∈ ordF t fn s := fun c hc b => ordK_closed obeg ok cl hc b
    have hbegF : ∀ c, c ∈ begF t fn s → c ∈ ordF t fn s := fun c hc => ordF_beg hc
    have rowF_eq : ∀ c, rowF t fn (ordF t fn s) c = (idxK (ordF t fn s) (fn (goT t (spF fn t.rows.length c) true)), idxK (ordF t fn s) (fn (goT t (spF fn t.rows.length c) false)), goodT t (spF fn t.rows.length c)) := fun _ => rfl
    have etab : tabD (leastF t fn s) = .tuple [.int (s : Int), boolsD (t.flats.take s), boolsD (t.steeps.take s), natsD ((begF t fn s).map (idxK (ordF t fn s))), rowsD ((ordF t fn s).map (rowF t fn (ordF t fn s)))] := rfl
    have hkD : ∀ (q : Addr) (H' : Hp), Same H H' → Dp K H' (.ref q) (tabD (leastF t fn s)) → Q (.ref q) H' := fun q H' e hd => k fn s q H' cl hs e hd
    rw [etab] at hkD
    generalize ordF t fn s = o at *
    have il : (intsV o).length = o.length := by unfold intsV; rw [List.length_map]
    -- made
    refine ⟨fun σ H' => ∃ (mk : Addr) (vs : List V), σ = [some (.ref a), some (.int (t.m : Int)), some f, some st, some (.ref ba), some (.ref ra), some (.ref l), some (.ref bt), none, some (.int (s : Int)), some (.ref d1), s11, some (.ref ol), some (.ref d2), s14, some (.int (at_ : Int)), some (.ref mk), none, none, none] ∧ Wk K H t fn s l bt d1 ol d2 H' o ∧ H' mk = some (.lst vs) ∧ DpAll K H' vs ((o.map (rowF t fn o)).map rowD), ?_, ?_⟩
    · -- [rows[spots[name]] for name in order]
      refine ⟨_, rfl, ol, rfl, ⟨_, SqL.of hO⟩, fun D1 hD1 => ?_⟩
      refine lc_list (K := K) (a := ol) (xs := intsV o) (fun i H' => Same H9 H' ∧ ∃ vs : List V, H' D1 = some (.lst vs) ∧ vs.length = i ∧ ∀ j c, j < i → o[j]? = some c → ∃ p r, vs[j]? = some (.ref p) ∧ t.rows[spF fn t.rows.length c]? = some r ∧ SqT K H p [.int (r.1 : Int), .int (r.2.1 : Int), .bl r.2.2])
        ⟨same_new hD1, [], upd_same, rfl, fun j c hj => absurd hj (Nat.not_lt_zero _)⟩ (fun i H' _ q => SqL.of (q.1 _ _ hO)) ?_ ?_
      · rintro i z H10 hz ⟨e10, vs, hV, hvl, hvs⟩
        unfold intsV at hz
        rw [List.getElem?_map] at hz
        obtain ⟨c, hc, rfl⟩ := Option.map_eq_some_iff.mp hz
        have hio : i < o.length := (List.getElem?_eq_some_iff.mp hc).1
        have hcm := List.mem_of_getElem? hc
        have hsp := oF.sp hcm
        have hr := List.getElem?_eq_getElem hsp.1
        obtain ⟨p, hp, hP⟩ := hrow _ _ hr
        obtain ⟨kv1, hS1, hS2⟩ := (W9.grow e10).lta.sp
        have dg := DGet.k (k := ki c) hS1
        rw [hS2, spotV_sp (oF.im c hcm)] at dg
        refine ⟨rfl, _, rfl, _, rfl, _, rfl, d1, _, rfl, dg, ra, _, _, _, rfl, rfl, seqT (e9.trans e10) hR, atI_nat hp, vs, hV, szl (by omega), same_mut e10 hD1, _, upd_same, (by rw [List.length_append, hvl]; rfl), fun j c' hj hc' => ?_⟩
        by_cases hji : j < i
        · obtain ⟨p', r', h1, h2, h3⟩ := hvs j c' hji hc'
          exact ⟨p', r', by rw [List.getElem?_append_left (by omega)]; exact h1, h2, h3⟩
        · have : j = i := by omega
          subst this
          rw [hc] at hc'
          cases hc'
          exact ⟨p, _, by rw [List.getElem?_append_right (by omega), hvl, Nat.sub_self]; rfl, hr, hP⟩
      rintro H10 ⟨e10, vs, hV, hvl, hvs⟩
      rw [il] at hvl hvs
      have W10 := W9.grow e10
      refine ⟨D1, rfl, ⟨_, SqL.of hV⟩, fun D2 hD2 => ?_⟩
      refine lc_list (K := K) (a := D1) (xs := vs) (fun i H' => Same H10 H' ∧ ∃ ws : List V, H' D2 = some (.lst ws) ∧ ws.length = i ∧ ∀ j c, j < i → o[j]? = some c → ∃ q, ws[j]? = some (.ref q) ∧ H' q = some (.tup [.int ((rowF t fn o c).1 : Int), .int ((rowF t fn o c).2.1 : Int), .bl (rowF t fn o c).2.2]))
        ⟨same_new hD2, [], upd_same, rfl, fun j c hj => absurd hj (Nat.not_lt_zero _)⟩ (fun i H' _ q => SqL.of (q.1 _ _ hV)) ?_ ?_
      · rintro i z H11 hz ⟨e11, ws, hW, hwl, hws⟩
        have hio : i < o.length := by rw [← hvl]; exact (List.getElem?_eq_some_iff.mp hz).1
        have hc := List.getElem?_eq_getElem hio
        have hcm := List.getElem_mem hio
        generalize o[i] = c at *
        obtain ⟨p, r, hp, hr, hP⟩ := hvs i c hio hc
        rw [hz] at hp
        cases hp
        have W11 := W10.grow e11
        obtain ⟨kvs, hN, hT⟩ := W11.num
        have hsp := oF.sp hcm
        have hrm := List.mem_of_getElem? hr
        have go : goT t (spF fn t.rows.length c) true = r.1 ∧ goT t (spF fn t.rows.length c) false = r.2.1 := by
          unfold goT
          rw [hr]
          exact ⟨rfl, rfl⟩
        have gg : goodT t (spF fn t.rows.length c) = r.2.2 := by
          unfold goodT
          rw [hr]
        have er : rowF t fn o c = (idxK o (fn r.1), idxK o (fn r.2.1), r.2.2) := by
          rw [rowF_eq, go.1, go.2, gg]
        have c1 := closed c hcm true
        have c2 := closed c hcm false
        rw [go.1] at c1
        rw [go.2] at c2
        have g1 := DGet.k (k := ki (fn r.1)) hN
        have g2 := DGet.k (k := ki (fn r.2.1)) hN
        rw [hT.val, if_pos c1] at g1
        rw [hT.val, if_pos c2] at g2
        have hL11 := W11.lta.nm
        refine ⟨p, _, rfl, seqT W11.same hP, rfl, _, _, rfl, _, _, rfl, _, _, rfl, rfl, rfl, ?_⟩
        refine ⟨_, rfl, _, rfl, _, rfl, l, _, _, _, rfl, rfl, SqL.of hL11, nmAt (ok.rw1 _ hrm), d2, _, rfl, g1, _, rfl, _, rfl, _, rfl, l, _, _, _, rfl, rfl, SqL.of hL11, nmAt (ok.rw2 _ hrm), d2, _, rfl, g2, _, rfl, (by show 3 ≤ sizeLine; decide), fun q hq => ?_⟩
        have nD : D2 ≠ q := ne_of_none hW hq
        refine ⟨ws, (by rw [upd_ne nD]; exact hW), szl (by omega), same_mut (e11.trans (same_new hq)) hD2, _, upd_same, (by rw [List.length_append, hwl]; rfl), fun j c' hj hc' => ?_⟩
        by_cases hji : j < i
        · obtain ⟨q', h1, h2⟩ := hws j c' hji hc'
          have nq : q' ≠ D2 := fun z => by
            rw [z, hW] at h2
            cases h2
          exact ⟨q', by rw [List.getElem?_append_left (by omega)]; exact h1, by rw [upd_ne nq]; exact (same_new hq) _ _ h2⟩
        · have : j = i := by omega
          subst this
          rw [hc] at hc'
          cases hc'
          exact ⟨q, by rw [List.getElem?_append_right (by omega), hwl, Nat.sub_self]; rfl, by rw [upd_ne nD.symm, upd_same, er]⟩
      rintro H11 ⟨e11, ws, hW, hwl, hws⟩
      rw [hvl] at hwl hws
      refine ⟨D2, ws, rfl, W10.grow e11, hW, ?_⟩
      refine dpRows hwl fun j c hc => ?_
      obtain ⟨q, h1, h2⟩ := hws j c (List.getElem?_eq_some_iff.mp hc).1 hc
      exact ⟨q, h1, SqT.of h2⟩
    rintro σ H10 ⟨mk, vs, rfl, W10, hM, dM⟩
    obtain ⟨fa, rfl, hF⟩ := Dp.bools T.fd
    obtain ⟨sa, rfl, hS⟩ := Dp.bools T.sd
    -- return (size, flats[:size], steeps[:size], tuple(..), tuple(made))
    refine ⟨_, rfl, _, rfl, _, rfl, _, rfl, ?_⟩
    refine slA_ok (seqT W10.same hF) (by rw [List.length_map, ok.fl]; exact sle) fun q1 H11 e11 hq1 => ?_
    refine ⟨_, rfl, _, rfl, _, rfl, ?_⟩
    refine slA_ok (seqT (W10.same.trans e11) hS) (by rw [List.length_map, ok.sl]; exact sle) fun q2 H12 e12 hq2 => ?_
    refine ⟨_, rfl, _, rfl, _, rfl, ?_⟩
    have W12 := W10.grow (e11.trans e12)
    refine slA_ok W12.lta.bg (by rw [lbeg]; exact sle) fun q3 H13 e13 hq3 => ?_
    have eb : (intsV (t.starts.map fn)).take s = intsV (begF t fn s) := by unfold intsV begF; rw [List.map_take]
    rw [eb] at hq3
    have W13 := W12.grow e13
    have lbs : (begF t fn s).length ≤ t.m := by
      unfold begF
      rw [List.length_take, List.length_map, ok.tl]
      omega
    refine ⟨q3, rfl, ⟨_, hq3⟩, fun D3 hD3 => ?_⟩
    refine lc_tup (K := K) (a := q3) (xs := intsV (begF t fn s)) (fun i H' => Same H13 H' ∧ H' D3 = some (.lst (intsV (((begF t fn s).take i).map (idxK o))))) ⟨same_new hD3, upd_same⟩ (fun i H' _ q => seqT q.1 hq3) ?_ ?_
    · rintro i z H14 hz ⟨e14, g1⟩
      unfold intsV at hz
      rw [List.getElem?_map] at hz
      obtain ⟨c, hc, rfl⟩ := Option.map_eq_some_iff.mp hz
      have hi : i < (begF t fn s).length := (List.getElem?_eq_some_iff.mp hc).1
      obtain ⟨kvs, hN, hT⟩ := (W13.grow e14).num
      have dg := DGet.k (k := ki c) hN
      rw [hT.val, if_pos (hbegF c (List.mem_of_getElem? hc))] at dg
      refine ⟨rfl, _, rfl, _, rfl, d2, _, rfl, dg, _, g1, ?_, same_mut e14 hD3, ?_⟩
      · unfold intsV
        rw [List.length_map, List.length_map, List.length_take]
        exact szl (by omega)
      · rw [upd_same, List.take_add_one, hc]
        unfold intsV
        rw [List.map_append, List.map_append]
        rfl
    rintro H14 ⟨e14, g1⟩
    have lb2 : (intsV (begF t fn s)).length = (begF t fn s).length := by unfold intsV; rw [List.length_map]
    rw [lb2, List.take_length] at g1
    refine ⟨D3, _, rfl, .inl ⟨SqL.of g1, fun q4 hq4 => ?_⟩⟩
    have e1015 := (((e11.trans e12).trans e13).trans e14).trans (same_new (o := .tup (intsV ((begF t fn s).map (idxK o)))) hq4)
    have e1215 := (e13.trans e14).trans (same_new (o := .tup (intsV ((begF t fn s).map (idxK o)))) hq4)
    have h4 : SqT K (upd H14 q4 (.tup (intsV ((begF t fn s).map (idxK o))))) q4 (intsV ((begF t fn s).map (idxK o))) := SqT.of upd_same
    generalize upd H14 q4 (.tup (intsV ((begF t fn s).map (idxK o)))) = H15 at *
    refine ⟨_, rfl, mk, _, rfl, .inl ⟨SqL.of (e1015 _ _ hM), fun q5 hq5 => ?_⟩⟩
    refine ⟨(by show 5 ≤ sizeLine; decide), fun q6 hq6 => ?_⟩
    have f5 := (same_new (o := .tup vs) hq5).trans (same_new (o := .tup [V.int (s : Int), .ref q1, .ref q2, .ref q4, .ref q5]) hq6)
    have h5 : SqT K (upd (upd H15 q5 (.tup vs)) q6 (.tup [V.int (s : Int), .ref q1, .ref q2, .ref q4, .ref q5])) q5 vs := seqT (same_new hq6) (SqT.of upd_same)
    refine hkD q6 _ (W10.same.trans (e1015.trans f5)) (.tup (SqT.of upd_same) (.cons (.int _) (.cons ?_ (.cons ?_ (.cons ?_ (.cons ?_ .nil))))))
    · exact .tup (seqT ((e12.trans e1215).trans f5) hq1) (by rw [← List.map_take]; exact dpBools _)
    · exact .tup (seqT (e1215.trans f5) hq2) (by rw [← List.map_take]; exact dpBools _)
    · exact .tup (seqT f5 h4) (dpInts _)
    · exact .tup h5 (Dp.sameAll (e1015.trans f5) dM)

/-! ### is_number -/
/-- by the value's type alone -/
def sp_is_number (K : PySem.W.Frag) : Sp := fun vs H Q _ => ∃ (v : V) (t : String) (b1 b2 : Bool), vs = [v] ∧ TyX K H v (.type t) ∧ kitB t "int" = some b1 ∧ kitB t "bool" = some b2 ∧ Q (.bl (b1 && !b2)) H
theorem sp_number_int {K : PySem.W.Frag} {H : Hp} {Q : VK} {E : XK} {i : Int} (q : Q (.bl true) H) : sp_is_number K [.int i] H Q E := ⟨_, "int", true, false, rfl, .base (.int i), by decide +kernel, by decide +kernel, q⟩

theorem sc_is_number : FnScope ["value"] ["value"] (defScope s_is_number) := ⟨rfl, rfl, rfl, by decide +kernel, rfl, by decide +kernel, by decide +kernel⟩
theorem ok_is_number (E : En K mg) : Good P w K mg base CX0 1 "is_number" ["value"] (sp_is_number K) := by
  obtain ⟨fd, F⟩ := E.says.def_ 8 (d := d_is_number) rfl
  refine ⟨fd, ?_, F.bindsN fun _ _ _ _ _ _ us hl => match us, hl with | [_], _ => rfl, F.kp, E.gl "is_number"⟩
  refine F.ok sc_is_number (fun vs H Q E' h => ?_) (fun cdv A outer s H vs Q E' hr h => ?_)
  · obtain ⟨v, t, b1, b2, rfl, _⟩ := h; rfl
  · have hu64 := hu64_of hr
    refine ⟨_, PSs.nox (pss_one (ps_ret (pe_and (pe_callB call_isi (by rfl) (E.fr "isinstance") (by decide +kernel) (pa_cons (pv 0) (pa_cons (pe_bltn (v := .ty "int") (by rfl) (E.fr "int") (by decide +kernel) rfl) pa_nil))) (pe_one (pe_not (pe_callB call_isi (by rfl) (E.fr "isinstance") (by decide +kernel) (pa_cons (pv 0) (pa_cons (pe_bltn (v := .ty "bool") (by rfl) (E.fr "bool") (by decide +kernel) rfl) pa_nil)))))))), ?_⟩
    obtain ⟨v, t, b1, b2, rfl, T, e1, e2, k⟩ := h
    refine ⟨_, rfl, _, _, _, _, _, rfl, .ty _, T, kit_ty e1, _, rfl, ?_⟩
    cases b1 with
    | false => exact ite_f rfl k
    | true => exact ite_t rfl ⟨_, rfl, _, _, _, _, _, rfl, .ty _, T, kit_ty e2, _, rfl, k⟩

/-! ### is_spot -/
def sp_is_spot (K : PySem.W.Frag) : Sp := fun vs H Q _ => ∃ (v : V) (d : PyData) (n : Nat), vs = [v, .int (n : Int)] ∧ Dp K H v d ∧ Q (.bl (spotD n d)) H

theorem sc_is_spot : FnScope ["value", "many"] ["value", "many"] (defScope s_is_spot) := ⟨rfl, rfl, rfl, by decide +kernel, rfl, by decide +kernel, by decide +kernel⟩
theorem ok_is_spot (E : En K mg) (G_is_number : Good P w K mg base CX0 1 "is_number" ["value"] (sp_is_number K)) : Good P w K mg base CX0 2 "is_spot" ["value", "many"] (sp_is_spot K) := by
  obtain ⟨fd, F⟩ := E.says.def_ 9 (d := d_is_spot) rfl
  refine ⟨fd, ?_, F.bindsN fun _ _ _ _ _ _ us hl => match us, hl with | [_, _], _ => rfl, F.kp, E.gl "is_spot"⟩
  refine F.ok sc_is_spot (fun vs H Q E' h => ?_) (fun cdv A outer s H vs Q E' hr h => ?_)
  · obtain ⟨v, d, n, rfl, _⟩ := h; rfl
  · have hu64 := hu64_of hr
    refine ⟨_, PSs.nox (pss_one (ps_ret (pe_and (pe_G G_is_number (hr.mono (by decide)) rfl pass0 (pa_cons (pv 0) pa_nil)) (pe_one (pe_chain op_le op_lt pe_int (pv 0) (pv 1)))))), ?_⟩
    obtain ⟨v, d, n, rfl, hD, k⟩ := h
    refine ⟨_, rfl, _, _, _, _, rfl, Dp.tyx hD, kit_int d, kit_bool d, ?_⟩
    cases hi : isIntD d with
    | false =>
      refine ⟨_, rfl, ?_⟩
      have e : ((false || isBoolD d) && !isBoolD d) = false := by cases isBoolD d <;> rfl
      refine ite_f e ?_
      rw [show spotD n d = false by cases d <;> first | rfl | cases hi] at k
      exact k
    | true =>
      obtain ⟨i, rfl, rfl⟩ := isInt_of hD hi
      refine ⟨_, rfl, ?_⟩
      refine ite_t rfl ?_
      refine ⟨_, rfl, _, _, rfl, rfl, _, rfl, ?_⟩
      cases h0 : decide ((0 : Int) ≤ i) with
      | false =>
        refine ite_f rfl ?_
        rw [show spotD n (.int i) = false by unfold spotD; dsimp only; rw [h0]; rfl] at k
        exact k
      | true =>
        refine ite_t rfl ?_
        refine ⟨_, rfl, _, _, rfl, rfl, ?_⟩
        rw [show spotD n (.int i) = decide (i < (n : Int)) by unfold spotD; dsimp only; rw [h0]; rfl] at k
        exact k

/-! ### is_row -/
def sp_is_row (K : PySem.W.Frag) : Sp := fun vs H Q _ => ∃ (v : V) (d : PyData) (n : Nat), vs = [v, .int (n : Int)] ∧ Dp K H v d ∧ Q (.bl (rowOkD n d)) H
theorem at3a (a b c : V) : atI [a, b, c] 0 = some a := rfl
theorem at3b (a b c : V) : atI [a, b, c] 1 = some b := rfl
theorem at3c (a b c : V) : atI [a, b, c] 2 = some c := rfl
theorem DpAll.three {K : PySem.W.Frag} {H : Hp} {xs : List V} {ds : List PyData} (h : DpAll K H xs ds) (e : xs.length = 3) : ∃ x y z a b c, xs = [x, y, z] ∧ ds = [a, b, c] ∧ Dp K H x a ∧ Dp K H y b ∧ Dp K H z c := by
  cases h with
  | nil => cases e
  | cons h1 h =>
    cases h with
    | nil => cases e
    | cons h2 h =>
      cases h with
      | nil => cases e
      | cons h3 h =>
        cases h with
        | nil => exact ⟨_, _, _, _, _, _, rfl, rfl, h1, h2, h3⟩
        | cons h4 h => cases e
theorem rowOk_len {n : Nat} {ds : List PyData} (h : ds.length ≠ 3) : rowOkD n (.tuple ds) = false := by
  unfold rowOkD
  match ds, h with
  | [], _ => rfl
  | [_], _ => rfl
  | [_, _], _ => rfl
  | [_, _, _], h => exact absurd rfl h
  | _ :: _ :: _ :: _ :: _, _ => rfl

theorem sc_is_row : FnScope ["value", "many"] ["value", "many"] (defScope s_is_row) := ⟨rfl, rfl, rfl, by decide +kernel, rfl, by decide +kernel, by decide +kernel⟩
theorem ok_is_row (E : En K mg) (G_is_spot : Good P w K mg base CX0 2 "is_spot" ["value", "many"] (sp_is_spot K)) : Good P w K mg base CX0 3 "is_row" ["value", "many"] (sp_is_row K) := by
  obtain ⟨fd, F⟩ := E.says.def_ 10 (d := d_is_row) rfl
  refine ⟨fd, ?_, F.bindsN fun _ _ _ _ _ _ us hl => match us, hl with | [_, _], _ => rfl, F.kp, E.gl "is_row"⟩
  refine F.ok sc_is_row (fun vs H Q E' h => ?_) (fun cdv A outer s H vs Q E' hr h => ?_)
  · obtain ⟨v, d, n, rfl, _⟩ := h; rfl
  · have hu64 := hu64_of hr
    refine ⟨_, PSs.nox (pss_cons (ps_if (PW.pt (pw_or (pt_not (pt_val (pe_callB call_isi (by rfl) (E.fr "isinstance") (by decide +kernel) (pa_cons (pv 0) (pa_cons (pe_bltn (v := .ty "tuple") (by rfl) (E.fr "tuple") (by decide +kernel) rfl) pa_nil))))) (pw_or (pt_cmpR op_ne (pe_callB call_len_seq (by rfl) (E.fr "len") (by decide +kernel) (pa_cons (pv 0) pa_nil)) pe_int (nomark _)) (pw_or1 (pt_not (pt_val (pe_callB call_isi (by rfl) (E.fr "isinstance") (by decide +kernel) (pa_cons (pe_ix ix_tup (pv 0) pe_int (fun _ _ => rfl)) (pa_cons (pe_bltn (v := .ty "bool") (by rfl) (E.fr "bool") (by decide +kernel) rfl) pa_nil)))))))))
        (pss_one (ps_ret pe_bl))
        pss_nil)
      (pss_one (ps_ret (pe_and (pe_G G_is_spot (hr.mono (by decide)) rfl pass0 (pa_cons (pe_ix ix_tup (pv 0) pe_int (fun _ _ => rfl)) (pa_cons (pv 1) pa_nil))) (pe_one (pe_G G_is_spot (hr.mono (by decide)) rfl pass0 (pa_cons (pe_ix ix_tup (pv 0) pe_int (fun _ _ => rfl)) (pa_cons (pv 1) pa_nil)))))))), ?_⟩
    obtain ⟨v, d, n, rfl, hD, k⟩ := h
    refine ⟨_, rfl, _, _, _, _, _, rfl, .ty _, Dp.tyx hD, kit_ty (kit_tup d), _, rfl, ?_⟩
    cases ht : isTupD d with
    | false =>
      refine ite_t (by rfl) ?_
      rw [show rowOkD n d = false by cases d <;> first | rfl | cases ht] at k
      exact k
    | true =>
      obtain ⟨a, xs, ds, rfl, rfl, hS, hA⟩ := isTup_of hD ht
      have hl := DpAll.length hA
      refine ite_f (by rfl) ⟨_, rfl, a, _, rfl, .inr hS, rfl, _, rfl, ?_⟩
      by_cases h3 : xs.length = 3
      · obtain ⟨x, y, z, a1, b1, c1, rfl, rfl, d1, d2, d3⟩ := DpAll.three hA h3
        refine ite_f rfl ⟨_, rfl, a, _, _, _, rfl, rfl, hS, at3c _ _ _, _, _, _, _, _, rfl, .ty _, Dp.tyx d3, kit_ty (kit_bool c1), _, rfl, ?_⟩
        cases hb : isBoolD c1 with
        | false =>
          refine ite_t (by rfl) ?_
          rw [show rowOkD n (.tuple [a1, b1, c1]) = false by unfold rowOkD; dsimp only; rw [hb]; rfl] at k
          exact k
        | true =>
          refine ite_f (by rfl) ?_
          rw [show rowOkD n (.tuple [a1, b1, c1]) = (spotD n a1 && spotD n b1) by unfold rowOkD; dsimp only; rw [hb]; rfl] at k
          refine ⟨_, rfl, a, _, _, _, rfl, rfl, hS, at3a _ _ _, _, rfl, x, a1, n, rfl, d1, _, rfl, ?_⟩
          cases hs : spotD n a1 with
          | false =>
            rw [hs] at k
            exact ite_f (by rfl) k
          | true =>
            rw [hs] at k
            exact ite_t (by rfl) ⟨_, rfl, a, _, _, _, rfl, rfl, hS, at3b _ _ _, _, rfl, y, b1, n, rfl, d2, k⟩
      · have e1 : decide ((xs.length : Int) = 3) = false := decide_eq_false (by omega)
        refine ite_t ?_ ?_
        · show (!decide (V.int ((xs.length : Nat) : Int) = V.int 3)) = true
          rw [show decide (V.int ((xs.length : Nat) : Int) = V.int 3) = false from decide_eq_false (fun z => by injection z with z; omega)]
          rfl
        · rw [rowOk_len (by rw [← hl]; exact h3)] at k
          exact k

/-! ### are_truths -/
def sp_are_truths (K : PySem.W.Frag) : Sp := fun vs H Q _ => ∃ (v : V) (d : PyData) (n : Nat), vs = [v, .int (n : Int)] ∧ Dp K H v d ∧ n ≤ 1000 ∧ ∀ H', Same H H' → Q (.bl (truthsD n d)) H'

theorem sc_are_truths : FnScope ["value", "many", "one"] ["value", "many"] (defScope s_are_truths) := ⟨rfl, rfl, rfl, by decide +kernel, rfl, by decide +kernel, by decide +kernel⟩
theorem ok_are_truths (E : En K mg) : Good P w K mg base CX0 1 "are_truths" ["value", "many"] (sp_are_truths K) := by
  obtain ⟨fd, F⟩ := E.says.def_ 11 (d := d_are_truths) rfl
  refine ⟨fd, ?_, F.bindsN fun _ _ _ _ _ _ us hl => match us, hl with | [_, _], _ => rfl, F.kp, E.gl "are_truths"⟩
  refine F.ok sc_are_truths (fun vs H Q E' h => ?_) (fun cdv A outer s H vs Q E' hr h => ?_)
  · obtain ⟨v, d, n, rfl, _⟩ := h; rfl
  · have hu64 := hu64_of hr
    refine ⟨_, PSs.nox (pss_one (ps_ret (pe_and (pe_callB call_isi (by rfl) (E.fr "isinstance") (by decide +kernel) (pa_cons (pv 0) (pa_cons (pe_bltn (v := .ty "tuple") (by rfl) (E.fr "tuple") (by decide +kernel) rfl) pa_nil))) (pe_and (pe_cmpR op_eq (pe_callB call_len_seq (by rfl) (E.fr "len") (by decide +kernel) (pa_cons (pv 0) pa_nil)) (pv 1) (nomark _)) (pe_one (pe_callB (cr_all rfl) (by rfl) (E.fr "all") (by decide +kernel) (pa_cons (pe_lc (own := [("one", 2)]) (by rfl) sc_are_truths.nd (pi_tup (pv 0)) (blkOk_by (N := ["value", "many", "one"]) (sc := defScope s_are_truths) (by decide +kernel)) (by exact fun _ _ _ _ _ => (pg_name (i := 2) sc_are_truths.nd rfl (by first | exact Or.inl rfl | exact Or.inr rfl))) (by exact fun _ _ _ _ _ => pts_nil) (by exact fun _ _ _ _ _ => (pe_callB (show CallR _ _ (rIsi K) from call_isi) (by rfl) (E.fr "isinstance") (by decide +kernel) (pa_cons (pv 2) (pa_cons (pe_bltn (v := .ty "bool") (by rfl) (E.fr "bool") (by decide +kernel) rfl) pa_nil))))) pa_nil))))))), ?_⟩
    obtain ⟨v, d, n, rfl, hD, hn, k⟩ := h
    refine ⟨_, rfl, _, _, _, _, _, rfl, .ty _, Dp.tyx hD, kit_ty (kit_tup d), _, rfl, ?_⟩
    cases ht : isTupD d with
    | false =>
      refine ite_f (by rfl) ?_
      rw [show truthsD n d = false by cases d <;> first | rfl | cases ht] at k
      exact k _ (Same.refl _)
    | true =>
      obtain ⟨a, xs, ds, rfl, rfl, hS, hA⟩ := isTup_of hD ht
      have hl := DpAll.length hA
      refine ite_t (by rfl) ⟨_, rfl, a, _, rfl, .inr hS, _, rfl, rfl, _, rfl, ?_⟩
      by_cases h3 : xs.length = n
      · refine ite_t (by rw [h3]; exact deq rfl) ?_
        refine ⟨_, rfl, a, rfl, ⟨_, hS⟩, fun D hD0 => ?_⟩
        refine lc_tup (K := K) (a := a) (xs := xs) (fun i H' => Same H H' ∧ H' D = some (.lst (((ds.take i).map isBoolD).map V.bl))) ⟨same_new hD0, upd_same⟩ (fun i H' _ q => seqT q.1 hS) ?_ ?_
        · rintro i z H1 hz ⟨e1, g1⟩
          obtain ⟨dz, hdz, hDz⟩ := DpAll.get hA hz
          have hi : i < ds.length := (List.getElem?_eq_some_iff.mp hdz).1
          refine ⟨rfl, _, rfl, _, _, _, _, _, rfl, .ty _, Dp.tyx (Dp.same e1 hDz), kit_ty (kit_bool dz), _, g1, ?_, same_mut e1 hD0, ?_⟩
          · rw [List.length_map, List.length_map, List.length_take]
            exact szl (by omega)
          · rw [upd_same, List.take_add_one, hdz]
            simp
        · rintro H1 ⟨e1, g1⟩
          refine ⟨D, _, rfl, SqL.of g1, ?_⟩
          rw [List.take_of_length_le (by omega)]
          rw [show truthsD n (.tuple ds) = ds.all isBoolD by unfold truthsD; dsimp only; rw [decide_eq_true (by omega : ds.length = n)]; rfl] at k
          have e : ((ds.map isBoolD).all id) = ds.all isBoolD := by rw [List.all_map]; rfl
          rw [e]
          exact k _ e1
      · refine ite_f ?_ ?_
        · show decide (V.int ((xs.length : Nat) : Int) = V.int (n : Int)) = false
          exact decide_eq_false (fun z => by injection z with z; omega)
        · rw [show truthsD n (.tuple ds) = false by unfold truthsD; dsimp only; rw [decide_eq_false (by omega : ¬ ds.length = n)]; rfl] at k
          have e1 : (V.bl (decide (V.int ((xs.length : Nat) : Int) = V.int (n : Int)))) = V.bl false := by
            rw [decide_eq_false (fun z => by injection z with z; omega)]
          first
          | exact k _ (Same.refl _)
          | (rw [e1]; exact k _ (Same.refl _))

/-! ### is_table -/
def sp_is_table (K : PySem.W.Frag) : Sp := fun vs H Q _ => ∃ (a : Addr) (m f s b r : V) (dm df ds db dr : PyData), vs = [.ref a] ∧ SqT K H a [m, f, s, b, r] ∧ Dp K H m dm ∧ Dp K H f df ∧ Dp K H s ds ∧ Dp K H b db ∧ Dp K H r dr ∧ lenD dr ≤ 1000 ∧ lenD db ≤ 1000 ∧
  ∀ H', Same H H' → Q (.bl (tableD dm df ds db dr)) H'
theorem tableD_notInt {m f s b r : PyData} (h : isIntD m = false) : tableD m f s b r = false := by
  unfold tableD
  cases m <;> first | rfl | cases h

theorem sc_is_table : FnScope ["table", "modulus", "flats", "steeps", "starts", "rows", "row", "one"] ["table"] (defScope s_is_table) := ⟨rfl, rfl, rfl, by decide +kernel, rfl, by decide +kernel, by decide +kernel⟩
theorem ok_is_table (E : En K mg) (G_is_spot : Good P w K mg base CX0 2 "is_spot" ["value", "many"] (sp_is_spot K)) (G_is_row : Good P w K mg base CX0 3 "is_row" ["value", "many"] (sp_is_row K)) (G_are_truths : Good P w K mg base CX0 1 "are_truths" ["value", "many"] (sp_are_truths K)) (G_is_number : Good P w K mg base CX0 1 "is_number" ["value"] (sp_is_number K)) : Good P w K mg base CX0 4 "is_table" ["table"] (sp_is_table K) := by
  obtain ⟨fd, F⟩ := E.says.def_ 12 (d := d_is_table) rfl
  refine ⟨fd, ?_, F.bindsN fun _ _ _ _ _ _ us hl => match us, hl with | [_], _ => rfl, F.kp, E.gl "is_table"⟩
  refine F.ok sc_is_table (fun vs H Q E' h => ?_) (fun cdv A outer s H vs Q E' hr h => ?_)
  · obtain ⟨a, m, f, s, b, r, dm, df, ds, db, dr, rfl, _⟩ := h; rfl
  · have hu64 := hu64_of hr
    refine ⟨_, PSs.nox (pss_cons (ps_asg (pv 0) (pg_tup rfl (pgs_cons (pg_name (i := 1) sc_is_table.nd rfl (by first | exact Or.inl rfl | exact Or.inr rfl)) (pgs_cons (pg_name (i := 2) sc_is_table.nd rfl (by first | exact Or.inl rfl | exact Or.inr rfl)) (pgs_cons (pg_name (i := 3) sc_is_table.nd rfl (by first | exact Or.inl rfl | exact Or.inr rfl)) (pgs_cons (pg_name (i := 4) sc_is_table.nd rfl (by first | exact Or.inl rfl | exact Or.inr rfl)) (pgs_cons (pg_name (i := 5) sc_is_table.nd rfl (by first | exact Or.inl rfl | exact Or.inr rfl)) pgs_nil)))))))
      (pss_cons (ps_if (PW.pt (pw_or (pt_not (pt_val (pe_G G_is_number (hr.mono (by decide)) rfl pass0 (pa_cons (pv 1) pa_nil)))) (pw_or1 (pt_cmpR op_notIn_seq (pv 1) (pe_glob rfl (E.gl "MODULI") (show RelV (V.ref (He.ga K "MODULI")) _ from rfl)) (by rfl)))))
        (pss_one (ps_ret pe_bl))
        pss_nil)
      (pss_cons (ps_if (PW.pt (pw_or (pt_not (pt_val (pe_G G_are_truths (hr.mono (by decide)) rfl pass0 (pa_cons (pv 2) (pa_cons (pv 1) pa_nil))))) (pw_or1 (pt_not (pt_val (pe_G G_are_truths (hr.mono (by decide)) rfl pass0 (pa_cons (pv 3) (pa_cons (pv 1) pa_nil))))))))
        (pss_one (ps_ret pe_bl))
        pss_nil)
      (pss_cons (ps_if (PW.pt (pw_or (pt_not (pt_val (pe_callB call_isi (by rfl) (E.fr "isinstance") (by decide +kernel) (pa_cons (pv 5) (pa_cons (pe_bltn (v := .ty "tuple") (by rfl) (E.fr "tuple") (by decide +kernel) rfl) pa_nil))))) (pw_or1 (pt_not (pt_val (pe_callB (cr_all rfl) (by rfl) (E.fr "all") (by decide +kernel) (pa_cons (pe_lc (own := [("row", 6)]) (by rfl) sc_is_table.nd (pi_tup (pv 5)) (blkOk_by (N := ["table", "modulus", "flats", "steeps", "starts", "rows", "row", "one"]) (sc := defScope s_is_table) (by decide +kernel)) (by exact fun _ _ _ _ _ => (pg_name (i := 6) sc_is_table.nd rfl (by first | exact Or.inl rfl | exact Or.inr rfl))) (by exact fun _ _ _ _ _ => pts_nil) (by exact fun _ _ _ _ _ => (pe_G G_is_row (hr.mono (by decide)) rfl pass0 (pa_cons (pv 6) (pa_cons (pe_callB (show CallR _ _ (rLenC K) from call_len_seq) (by rfl) (E.fr "len") (by decide +kernel) (pa_cons (pv 5) pa_nil)) pa_nil))))) pa_nil)))))))
        (pss_one (ps_ret pe_bl))
        pss_nil)
      (pss_one (ps_ret (pe_and (pe_callB call_isi (by rfl) (E.fr "isinstance") (by decide +kernel) (pa_cons (pv 4) (pa_cons (pe_bltn (v := .ty "tuple") (by rfl) (E.fr "tuple") (by decide +kernel) rfl) pa_nil))) (pe_and (pe_cmpR op_eq (pe_callB call_len_seq (by rfl) (E.fr "len") (by decide +kernel) (pa_cons (pv 4) pa_nil)) (pv 1) (nomark _)) (pe_one (pe_callB (cr_all rfl) (by rfl) (E.fr "all") (by decide +kernel) (pa_cons (pe_lc (own := [("one", 7)]) (by rfl) sc_is_table.nd (pi_tup (pv 4)) (blkOk_by (N := ["table", "modulus", "flats", "steeps", "starts", "rows", "row", "one"]) (sc := defScope s_is_table) (by decide +kernel)) (by exact fun _ _ _ _ _ => (pg_name (i := 7) sc_is_table.nd rfl (by first | exact Or.inl rfl | exact Or.inr rfl))) (by exact fun _ _ _ _ _ => pts_nil) (by exact fun _ _ _ _ _ => (pe_G G_is_spot (hr.mono (by decide)) rfl pass0 (pa_cons (pv 7) (pa_cons (pe_callB (show CallR _ _ (rLenC K) from call_len_seq) (by rfl) (E.fr "len") (by decide +kernel) (pa_cons (pv 5) pa_nil)) pa_nil))))) pa_nil))))))))))), ?_⟩
    obtain ⟨a, m, f, s, b, r, dm, df, ds, db, dr, rfl, hSq, hm, hf, hs, hb, hr', lr, lb, k⟩ := h
    refine ⟨_, rfl, a, _, rfl, hSq, rfl, _, _, rfl, _, _, rfl, _, _, rfl, _, _, rfl, _, _, rfl, rfl, ?_⟩
    refine ⟨_, rfl, _, _, _, _, rfl, Dp.tyx hm, kit_int dm, kit_bool dm, _, rfl, ?_⟩
    cases hi : isIntD dm with
    | false =>
      have e : ((false || isBoolD dm) && !isBoolD dm) = false := by cases isBoolD dm <;> rfl
      refine ite_t (by show (!((false || isBoolD dm) && !isBoolD dm)) = true; rw [e]; rfl) ?_
      rw [tableD_notInt hi] at k
      exact k _ (Same.refl _)
    | true =>
    obtain ⟨i, rfl, rfl⟩ := isInt_of hm hi
    refine ite_f (by rfl) ⟨_, rfl, _, _, rfl, .inr (at_MODULI E _), rfl, rfl, _, rfl, ?_⟩
    have eM : inV (V.int i) [V.int 1, V.int 2, V.int 3, V.int 6] = inMod i := inMod_eq i
    cases hM : inMod i with
    | false =>
      refine ite_t (by show (!inV (V.int i) [V.int 1, V.int 2, V.int 3, V.int 6]) = true; rw [eM, hM]; rfl) ?_
      rw [show tableD (.int i) df ds db dr = false by unfold tableD; dsimp only; rw [hM]; rfl] at k
      exact k _ (Same.refl _)
    | true =>
    refine ite_f (by show (!inV (V.int i) [V.int 1, V.int 2, V.int 3, V.int 6]) = false; rw [eM, hM]; rfl) ?_
    obtain ⟨n, rfl, hn⟩ : ∃ n : Nat, i = (n : Int) ∧ n ≤ 6 := inMod_nat hM
    have en : ((n : Int)).toNat = n := by omega
    -- are_truths(flats, modulus)
    refine ⟨_, rfl, _, rfl, f, df, n, rfl, hf, (by omega), fun H1 e1 => ⟨_, rfl, ?_⟩⟩
    cases h1 : truthsD n df with
    | false =>
      refine ite_t (by rfl) ?_
      rw [show tableD (.int (n : Int)) df ds db dr = false by unfold tableD; dsimp only; rw [hM, en, h1]; rfl] at k
      exact k _ e1
    | true =>
    refine ite_f (by rfl) ⟨_, rfl, _, rfl, s, ds, n, rfl, Dp.same e1 hs, (by omega), fun H2 e2 => ⟨_, rfl, ?_⟩⟩
    have e02 := e1.trans e2
    cases h2 : truthsD n ds with
    | false =>
      refine ite_t (by rfl) ?_
      rw [show tableD (.int (n : Int)) df ds db dr = false by unfold tableD; dsimp only; rw [hM, en, h1, h2]; rfl] at k
      exact k _ e02
    | true =>
    refine ite_f (by rfl) ?_
    -- isinstance(rows, tuple)
    refine ⟨_, rfl, _, _, _, _, _, rfl, .ty _, Dp.tyx (Dp.same e02 hr'), kit_ty (kit_tup dr), _, rfl, ?_⟩
    cases h3 : isTupD dr with
    | false =>
      refine ite_t (by rfl) ?_
      rw [show tableD (.int (n : Int)) df ds db dr = false by unfold tableD; dsimp only; rw [hM, en, h1, h2]; cases dr <;> first | rfl | cases h3] at k
      exact k _ e02
    | true =>
    obtain ⟨ra, us, rs, rfl, rfl, hR2, hA⟩ := isTup_of (Dp.same e02 hr') h3
    have lr : rs.length ≤ 1000 := lr
    have hl := DpAll.length hA
    refine ite_f (by rfl) ⟨_, rfl, ra, rfl, ⟨_, hR2⟩, fun D hD0 => ?_⟩
    refine lc_tup (K := K) (a := ra) (xs := us) (fun i H' => Same H2 H' ∧ H' D = some (.lst (((rs.take i).map (rowOkD rs.length)).map V.bl))) ⟨same_new hD0, upd_same⟩ (fun i H' _ q => seqT q.1 hR2) ?_ ?_
    · rintro i z H3 hz ⟨e3, g1⟩
      obtain ⟨dz, hdz, hDz⟩ := DpAll.get hA hz
      have hi : i < rs.length := (List.getElem?_eq_some_iff.mp hdz).1
      refine ⟨rfl, _, rfl, _, rfl, ra, us, rfl, .inr (seqT e3 hR2), z, dz, us.length, rfl, Dp.same e3 hDz, _, g1, ?_, same_mut e3 hD0, ?_⟩
      · rw [List.length_map, List.length_map, List.length_take]
        exact szl (by omega)
      · rw [upd_same, List.take_add_one, hdz, hl]
        simp
    rintro H3 ⟨e3, g1⟩
    have e03 := e02.trans e3
    rw [List.take_of_length_le (by omega)] at g1
    have ea : ((rs.map (rowOkD rs.length)).all id) = rs.all (rowOkD rs.length) := by rw [List.all_map]; rfl
    refine ⟨D, _, rfl, SqL.of g1, _, rfl, ?_⟩
    rw [ea]
    cases h4 : rs.all (rowOkD rs.length) with
    | false =>
      refine ite_t (by rfl) ?_
      rw [show tableD (.int (n : Int)) df ds db (.tuple rs) = false by unfold tableD; dsimp only; rw [hM, en, h1, h2, h4]; rfl] at k
      exact k _ e03
    | true =>
    refine ite_f (by rfl) ?_
    rw [show tableD (.int (n : Int)) df ds db (.tuple rs) = startsD (n : Int) rs.length db by unfold tableD; dsimp only; rw [hM, en, h1, h2, h4]; rfl] at k
    -- starts
    have hb3 := Dp.same e03 hb
    refine ⟨_, rfl, _, _, _, _, _, rfl, .ty _, Dp.tyx hb3, kit_ty (kit_tup db), _, rfl, ?_⟩
    cases h5 : isTupD db with
    | false =>
      refine ite_f (by rfl) ?_
      rw [show startsD (n : Int) rs.length db = false by cases db <;> first | rfl | cases h5] at k
      exact k _ e03
    | true =>
    obtain ⟨ba, ws, bs, rfl, rfl, hB3, hBA⟩ := isTup_of hb3 h5
    have lb : bs.length ≤ 1000 := lb
    have hbl := DpAll.length hBA
    have hR3 := seqT e3 hR2
    refine ite_t (by rfl) ⟨_, rfl, ba, _, rfl, .inr hB3, _, rfl, rfl, _, rfl, ?_⟩
    by_cases h6 : bs.length = n
    · refine ite_t (by show decide (V.int ((ws.length : Nat) : Int) = V.int (n : Int)) = true; rw [hbl, h6]; exact deq rfl) ?_
      refine ⟨_, rfl, ba, rfl, ⟨_, hB3⟩, fun D2 hD2 => ?_⟩
      refine lc_tup (K := K) (a := ba) (xs := ws) (fun i H' => Same H3 H' ∧ H' D2 = some (.lst (((bs.take i).map (spotD rs.length)).map V.bl))) ⟨same_new hD2, upd_same⟩ (fun i H' _ q => seqT q.1 hB3) ?_ ?_
      · rintro i z H4 hz ⟨e4, g2⟩
        obtain ⟨dz, hdz, hDz⟩ := DpAll.get hBA hz
        have hi : i < bs.length := (List.getElem?_eq_some_iff.mp hdz).1
        refine ⟨rfl, _, rfl, _, rfl, ra, us, rfl, .inr (seqT e4 hR3), z, dz, us.length, rfl, Dp.same e4 hDz, _, g2, ?_, same_mut e4 hD2, ?_⟩
        · rw [List.length_map, List.length_map, List.length_take]
          exact szl (by omega)
        · rw [upd_same, List.take_add_one, hdz, hl]
          simp
      rintro H4 ⟨e4, g2⟩
      rw [List.take_of_length_le (by omega)] at g2
      refine ⟨D2, _, rfl, SqL.of g2, ?_⟩
      rw [show startsD (n : Int) rs.length (.tuple bs) = bs.all (spotD rs.length) by unfold startsD; dsimp only; rw [h6, decide_eq_true rfl]; rfl] at k
      have eb : ((bs.map (spotD rs.length)).all id) = bs.all (spotD rs.length) := by rw [List.all_map]; rfl
      rw [eb]
      exact k _ (e03.trans e4)
    · have e7 : decide (V.int ((ws.length : Nat) : Int) = V.int (n : Int)) = false := decide_eq_false (fun z => by injection z with z; omega)
      refine ite_f (by exact e7) ?_
      rw [show startsD (n : Int) rs.length (.tuple bs) = false by unfold startsD; dsimp only; rw [decide_eq_false (by omega : ¬ ((bs.length : Int) = (n : Int)))]; rfl] at k
      first
      | exact k _ e03
      | (rw [e7]; exact k _ e03)

/-! ### PairSet.__init__ -/
/-- the parts of a table, or no table -/
def sp_PairSet___init__ (K : PySem.W.Frag) : Sp := fun vs H Q E => ∃ (a dx : Addr) (m f s b r : V) (dm df ds db dr : PyData), vs = [.ref a, m, f, s, b, r] ∧ H a = some (.ins (He.ga K "PairSet") dx []) ∧ H dx = some (.own a) ∧ dx ≠ a ∧
  Dp K H m dm ∧ Dp K H f df ∧ Dp K H s ds ∧ Dp K H b db ∧ Dp K H r dr ∧ lenD dr ≤ 1000 ∧ lenD db ≤ 1000 ∧
  ((∃ t : Tb, Tok t ∧ dm = .int (t.m : Int) ∧ df = boolsD t.flats ∧ ds = boolsD t.steeps ∧ db = natsD t.starts ∧ dr = rowsD t.rows ∧
    ∀ (fn : Nat → Nat) (z : Nat) (p : Addr) (H' : Hp), Cls t fn → Sz t fn z → Same H H' → Dp K H' (.ref p) (tabD (leastF t fn z)) → Q .non (upd H' a (.ins (He.ga K "PairSet") dx [("parts", .ref p)]))) ∨
   (tableD dm df ds db dr = false ∧ ∀ (H' : Hp) (d : Addr), Same H H' → H' d = none → E (.ref (He.ga K "InvalidTable")) (some d) (upd H' d (.xd [("tag", .str "InvalidTable")]))))

theorem sc_PairSet___init__ : FnScope ["self", "modulus", "flats", "steeps", "starts", "rows", "table"] ["self", "modulus", "flats", "steeps", "starts", "rows"] (defScope s_PairSet___init__) := ⟨rfl, rfl, rfl, by decide +kernel, rfl, by decide +kernel, by decide +kernel⟩
theorem ok_PairSet___init__ (E : En K mg) (G_least_table : Good P w K mg base CX0 3 "least_table" ["table"] (sp_least_table K)) (G_is_table : Good P w K mg base CX0 4 "is_table" ["table"] (sp_is_table K)) (X_InvalidTable : GoodI P w K mg base CX0 1 (He.ga K "InvalidTable") "InvalidTable" ["self"] (spI0 (He.ga K "InvalidTable") "InvalidTable")) : GoodM P w K mg base (L2.CX P w) 5 (He.ma K (He.ga K "PairSet") "__init__") ["self", "modulus", "flats", "steeps", "starts", "rows"] (sp_PairSet___init__ K) := by
  obtain ⟨fd, F⟩ := E.says.def_ 13 (d := d_PairSet___init__) rfl
  refine ⟨fd, ?_, F.bindsN fun _ _ _ _ _ _ us hl => match us, hl with | [_, _, _, _, _, _], _ => rfl⟩
  refine F.ok sc_PairSet___init__ (fun vs H Q E' h => ?_) (fun cdv A outer s H vs Q E' hr h => ?_)
  · obtain ⟨a, dx, m, f, s, b, r, dm, df, ds, db, dr, rfl, _⟩ := h; rfl
  · have hu64 := hu64_of hr
    refine ⟨_, (pss_cons (ps_set (i := 6) sc_PairSet___init__.nd rfl (by first | exact Or.inl rfl | exact Or.inr rfl) (pe_tup (pa_cons (pv 1) (pa_cons (pv 2) (pa_cons (pv 3) (pa_cons (pv 4) (pa_cons (pv 5) pa_nil)))))))
      (pss_cons (ps_if (pt_not (pt_val (pe_G G_is_table (hr.mono (by decide)) rfl pass0 (pa_cons (pv 6) pa_nil))))
        (pss_one (ps_raise rfl (takes_of (E := E') rfl rfl rfl rfl) (pmk_0 X_InvalidTable (hr.mono (by decide)) rfl pass0)))
        pss_nil)
      (pss_one (ps_fld (pv 0) (pe_G G_least_table (hr.mono (by decide)) rfl pass0 (pa_cons (pv 6) pa_nil)) rfl)))), ?_⟩
    obtain ⟨a, dx, m, f, s, b, r, dm, df, ds, db, dr, rfl, hA, hX, hn, hm, hf, hs, hb, hr', lr, lb, k⟩ := h
    -- table = (modulus, ..)
    refine ⟨_, rfl, _, rfl, _, rfl, _, rfl, _, rfl, (by show 5 ≤ sizeLine; decide), fun p hp => ?_⟩
    have e1 : Same H (upd H p (.tup [m, f, s, b, r])) := same_new hp
    have hT : SqT K (upd H p (.tup [m, f, s, b, r])) p [m, f, s, b, r] := SqT.of upd_same
    have hm1 := Dp.same e1 hm
    have hf1 := Dp.same e1 hf
    have hs1 := Dp.same e1 hs
    have hb1 := Dp.same e1 hb
    have hr1 := Dp.same e1 hr'
    generalize upd H p (.tup [m, f, s, b, r]) = H1 at *
    -- if not is_table(table): raise
    refine ⟨_, rfl, p, m, f, s, b, r, dm, df, ds, db, dr, rfl, hT, hm1, hf1, hs1, hb1, hr1, lr, lb, fun H2 e2 => ⟨_, rfl, ?_⟩⟩
    rcases k with ⟨t, ok, rfl, rfl, rfl, rfl, rfl, k⟩ | ⟨no, k⟩
    · rw [tableD_ok ok]
      refine ite_f rfl ?_
      cases Dp.int' hm1
      have hD : Dp K H2 (.ref p) (tabD t) := Dp.same e2 (.tup hT (.cons (.int _) (.cons hf1 (.cons hs1 (.cons hb1 (.cons hr1 .nil))))))
      -- self.parts = least_table(table)
      refine ⟨_, rfl, .ref p, t, rfl, hD, ok, fun fn z q H3 cl sz e3 hq => ?_⟩
      have e03 := (e1.trans e2).trans e3
      exact ⟨_, rfl, a, _, dx, [], rfl, e03 _ _ hA, En.cls_PairSet E, En.noat_PairSet_parts E, (by decide), k fn z q H3 cl sz e03 hq⟩
    · rw [no]
      refine ite_t rfl ?_
      exact fun d hd => k H2 d (e1.trans e2) hd

/-! ### _law_set -/
def sp__law_set (K : PySem.W.Frag) : Sp := fun vs H Q E => ∃ (v : V) (dm df ds db dr : PyData), vs = [v] ∧ Dp K H v (.tuple [dm, df, ds, db, dr]) ∧ lenD dr ≤ 1000 ∧ lenD db ≤ 1000 ∧
  ((∃ t : Tb, Tok t ∧ dm = .int (t.m : Int) ∧ df = boolsD t.flats ∧ ds = boolsD t.steeps ∧ db = natsD t.starts ∧ dr = rowsD t.rows ∧
    ∀ (fn : Nat → Nat) (z : Nat) (a : Addr) (H' : Hp), Cls t fn → Sz t fn z → Same H H' → SetAt K H' a (leastF t fn z) → Q (.ref a) H') ∨
   (tableD dm df ds db dr = false ∧ ∀ (H' : Hp) (d : Addr), Same H H' → H' d = none → E (.ref (He.ga K "InvalidTable")) (some d) (upd H' d (.xd [("tag", .str "InvalidTable")]))))
theorem ft5_0 (a b c d e : V) : atI [a, b, c, d, e] 0 = some a := rfl
theorem ft5_1 (a b c d e : V) : atI [a, b, c, d, e] 1 = some b := rfl
theorem ft5_2 (a b c d e : V) : atI [a, b, c, d, e] 2 = some c := rfl
theorem ft5_3 (a b c d e : V) : atI [a, b, c, d, e] 3 = some d := rfl
theorem ft5_4 (a b c d e : V) : atI [a, b, c, d, e] 4 = some e := rfl
theorem DpAll.five {K : PySem.W.Frag} {H : Hp} {xs : List V} {a b c d e : PyData} (h : DpAll K H xs [a, b, c, d, e]) : ∃ x y z u v, xs = [x, y, z, u, v] ∧ Dp K H x a ∧ Dp K H y b ∧ Dp K H z c ∧ Dp K H u d ∧ Dp K H v e := by
  cases h with
  | cons h1 h => cases h with
    | cons h2 h => cases h with
      | cons h3 h => cases h with
        | cons h4 h => cases h with
          | cons h5 h => cases h; exact ⟨_, _, _, _, _, rfl, h1, h2, h3, h4, h5⟩

theorem sc__law_set : FnScope ["table"] ["table"] (defScope s__law_set) := ⟨rfl, rfl, rfl, by decide +kernel, rfl, by decide +kernel, by decide +kernel⟩
theorem ok__law_set (E : En K mg) (G_PairSet___init__ : GoodM P w K mg base (L2.CX P w) 5 (He.ma K (He.ga K "PairSet") "__init__") ["self", "modulus", "flats", "steeps", "starts", "rows"] (sp_PairSet___init__ K)) : Good P w K mg base (L2.CX P w) 7 "_law_set" ["table"] (sp__law_set K) := by
  obtain ⟨fd, F⟩ := E.says.def_ 14 (d := d__law_set) rfl
  refine ⟨fd, ?_, F.bindsN fun _ _ _ _ _ _ us hl => match us, hl with | [_], _ => rfl, F.kp, E.gl "_law_set"⟩
  refine F.ok sc__law_set (fun vs H Q E' h => ?_) (fun cdv A outer s H vs Q E' hr h => ?_)
  · obtain ⟨v, dm, df, ds, db, dr, rfl, _⟩ := h; rfl
  · have hu64 := hu64_of hr
    refine ⟨_, (pss_one (ps_ret (pe_mkG (En.mkr_PairSet E) G_PairSet___init__ (hr.mono (by decide)) rfl (E.gl "PairSet") (passes_call (E := E') (takes_of (E := E') rfl rfl rfl rfl) fun _ _ _ _ h => h) (pa_cons (pe_ix ix_tup (pv 0) pe_int (fun _ _ => rfl)) (pa_cons (pe_ix ix_tup (pv 0) pe_int (fun _ _ => rfl)) (pa_cons (pe_ix ix_tup (pv 0) pe_int (fun _ _ => rfl)) (pa_cons (pe_ix ix_tup (pv 0) pe_int (fun _ _ => rfl)) (pa_cons (pe_ix ix_tup (pv 0) pe_int (fun _ _ => rfl)) pa_nil)))))))), ?_⟩
    obtain ⟨v, dm, df, ds, db, dr, rfl, hD, lr, lb, k⟩ := h
    obtain ⟨a, xs, rfl, hS, hA⟩ := Dp.tup' hD
    obtain ⟨m, f, s, b, r, rfl, hm, hf, hs, hb, hr'⟩ := DpAll.five hA
    refine ⟨_, rfl, a, _, _, _, rfl, rfl, hS, ft5_0 _ _ _ _ _, _, rfl, a, _, _, _, rfl, rfl, hS, ft5_1 _ _ _ _ _, _, rfl, a, _, _, _, rfl, rfl, hS, ft5_2 _ _ _ _ _, _, rfl, a, _, _, _, rfl, rfl, hS, ft5_3 _ _ _ _ _, _, rfl, a, _, _, _, rfl, rfl, hS, ft5_4 _ _ _ _ _, ?_⟩
    intro x dx hx hdx hn
    have e1 : Same H (upd (upd H dx (.own x)) x (.ins (He.ga K "PairSet") dx [])) := (same_new hdx).trans (same_new (by rw [upd_ne hn.symm]; exact hx))
    refine ⟨x, dx, m, f, s, b, r, dm, df, ds, db, dr, rfl, upd_same, (by rw [upd_ne hn, upd_same]), hn, Dp.same e1 hm, Dp.same e1 hf, Dp.same e1 hs, Dp.same e1 hb, Dp.same e1 hr', lr, lb, ?_⟩
    rcases k with ⟨t, ok, h1, h2, h3, h4, h5, k⟩ | ⟨no, k⟩
    · refine .inl ⟨t, ok, h1, h2, h3, h4, h5, fun fn z p H' cl sz e2 hp => ⟨rfl, ?_⟩⟩
      have md := SetAt.made hx hdx hn e2 hp
      exact k fn z x _ cl sz md.1 md.2
    · exact .inr ⟨no, fun H' d e2 hd => k H' d (e1.trans e2) hd⟩

/-! ### _law_pull -/
/-- a draw: some number from 0 on and below the amount; the bag alone has changed -/
def sp__law_pull (K : PySem.W.Frag) : Sp := fun vs H Q _ => ∃ (b : Addr) (n : Int), vs = [.ref b, .int n] ∧ Bag H b ∧ 0 < n ∧ n < 4611686018427387904 ∧ ∀ (r : Int) (H' : Hp), 0 ≤ r → r < n → Bag H' b → Kp b H H' → Q (.int r) H'
theorem at4_0 (a b c d : V) : atI [a, b, c, d] 0 = some a := rfl
theorem at4_1 (a b c d : V) : atI [a, b, c, d] 1 = some b := rfl
theorem at4_2 (a b c d : V) : atI [a, b, c, d] 2 = some c := rfl
theorem at4_3 (a b c d : V) : atI [a, b, c, d] 3 = some d := rfl
/-- the bag behind the first if -/
def pullMid (b : Addr) (n : Int) (H : Hp) : L2.St → Hp → Prop := fun σ H' => Bag H' b ∧ Kp b H H' ∧ ∃ v, σ = [some (.ref b), some (.int n), v, none, none]
theorem bag_put {H : Hp} {b c : Addr} {xs : List Int} {i hold seed : Int} {o : HO} (h : o = .lst [.ref c, .int i, .int hold, .int seed]) (h2 : H c = some (.lst (xs.map V.int))) (ne : b ≠ c) (h3 : xs.length ≤ 63) (h4 : 0 ≤ i) (h5 : 0 ≤ hold) (h6 : 0 ≤ seed) (h7 : seed < 2147483647) : Bag (upd H b o) b :=
  ⟨c, xs, i, hold, seed, by rw [upd_same, h], by rw [upd_ne ne.symm]; exact h2, ne, h3, h4, h5, h6, h7⟩

theorem sc__law_pull : FnScope ["bag", "amount", "cell", "got", "seed"] ["bag", "amount"] (defScope s__law_pull) := ⟨rfl, rfl, rfl, by decide +kernel, rfl, by decide +kernel, by decide +kernel⟩
theorem ok__law_pull (E : En K mg) : Good P w K mg base CX0 1 "_law_pull" ["bag", "amount"] (sp__law_pull K) := by
  obtain ⟨fd, F⟩ := E.says.def_ 15 (d := d__law_pull) rfl
  refine ⟨fd, ?_, F.bindsN fun _ _ _ _ _ _ us hl => match us, hl with | [_, _], _ => rfl, F.kp, E.gl "_law_pull"⟩
  refine F.ok sc__law_pull (fun vs H Q E' h => ?_) (fun cdv A outer s H vs Q E' hr h => ?_)
  · obtain ⟨b, n, rfl, _⟩ := h; rfl
  · have hu64 := hu64_of hr
    refine ⟨_, PSs.nox (C8.pss_cut (ps_if (PW.pt (pw_and (pt_cmpR op_eq (pe_ix ix_list (pv 0) pe_int (fun _ _ => rfl)) pe_int (nomark _)) (pw_and1 (pt_cmpR op_lt (pe_ix ix_list (pv 0) pe_int (fun _ _ => rfl)) (pe_callB call_len_seq (by rfl) (E.fr "len") (by decide +kernel) (pa_cons (pe_ix ix_list (pv 0) pe_int (fun _ _ => rfl)) pa_nil)) (nomark _)))))
        (pss_cons (ps_set (i := 2) sc__law_pull.nd rfl (by first | exact Or.inl rfl | exact Or.inr rfl) (pe_ix ix_list (pe_ix ix_list (pv 0) pe_int (fun _ _ => rfl)) (pe_ix ix_list (pv 0) pe_int (fun _ _ => rfl)) (fun _ _ => rfl)))
      (pss_cons (ps_asg (pe_op op_add (pe_ix ix_list (pv 0) pe_int (fun _ _ => rfl)) pe_int) (pg_sub (pv 0) pe_int set_list))
      (pss_one (ps_if (pt_cmpR op_ge (pv 2) (pe_op op_pow pe_int pe_int) (nomark _))
        (pss_one (ps_asg (pv 2) (pg_sub (pv 0) pe_int set_list)))
        (pss_one (ps_asg (pe_op op_mod (pe_callTy call_int1 (by rfl) (E.fr "int") (by decide +kernel) (pa_cons (pe_op op_add (pe_op op_add (pe_op op_mul (pe_ix ix_list (pv 0) pe_int (fun _ _ => rfl)) pe_int) (pe_op op_mul (pe_op op_mod (pe_callTy call_int1 (by rfl) (E.fr "int") (by decide +kernel) (pa_cons (pv 2) pa_nil)) pe_int) pe_int)) pe_int) pa_nil)) pe_int) (pg_sub (pv 0) pe_int set_list)))))))
        pss_nil)
      (pss_cons (ps_if (pt_cmpR op_gt (pe_ix ix_list (pv 0) pe_int (fun _ _ => rfl)) pe_int (nomark _))
        (pss_cons (ps_set (i := 3) sc__law_pull.nd rfl (by first | exact Or.inl rfl | exact Or.inr rfl) (pe_op op_mod (pe_callTy call_int1 (by rfl) (E.fr "int") (by decide +kernel) (pa_cons (pe_ix ix_list (pv 0) pe_int (fun _ _ => rfl)) pa_nil)) (pv 1)))
      (pss_cons (ps_asg (pe_op op_fdivW (pe_ix ix_list (pv 0) pe_int (fun _ _ => rfl)) (pv 1)) (pg_sub (pv 0) pe_int set_list))
      (pss_one (ps_ret (pv 3)))))
        pss_nil)
      (pss_cons (ps_set (i := 4) sc__law_pull.nd rfl (by first | exact Or.inl rfl | exact Or.inr rfl) (pe_ix ix_list (pv 0) pe_int (fun _ _ => rfl)))
      (pss_cons (ps_asg (pe_op op_mod (pe_callTy call_int1 (by rfl) (E.fr "int") (by decide +kernel) (pa_cons (pe_op op_add (pe_op op_add (pe_op op_mul (pv 4) (pv 4)) (pe_op op_mul (pv 4) pe_int)) pe_int) pa_nil)) pe_int) (pg_sub (pv 0) pe_int set_list))
      (pss_one (ps_ret (pe_op op_mod (pe_callTy call_int1 (by rfl) (E.fr "int") (by decide +kernel) (pa_cons (pe_op op_add (pe_op op_fdiv (pe_ix ix_list (pv 0) pe_int (fun _ _ => rfl)) pe_int) (pe_op op_mul (pe_op op_mod (pe_callTy call_int1 (by rfl) (E.fr "int") (by decide +kernel) (pa_cons (pe_ix ix_list (pv 0) pe_int (fun _ _ => rfl)) pa_nil)) pe_int) pe_int)) pa_nil)) (pv 1)))))))), ?_⟩
    obtain ⟨b, n, rfl, B, hn, hn2, k⟩ := h
    refine ⟨pullMid b n H, ?_, ?_⟩
    · obtain ⟨c, xs, i, hold, seed, h1, h2, ne, h3, h4, h5, h6, h7⟩ := B.ex
      refine ⟨_, rfl, b, _, _, _, rfl, rfl, SqL.of h1, at4_2 _ _ _ _, rfl, _, rfl, ?_⟩
      by_cases c0 : hold = 0
      · subst c0
        refine ite_t (deq rfl) ?_
        refine ⟨_, rfl, b, _, _, _, rfl, rfl, SqL.of h1, at4_1 _ _ _ _, _, rfl, b, _, _, _, rfl, rfl, SqL.of h1, at4_0 _ _ _ _, c, _, rfl, .inl (SqL.of h2), _, _, rfl, rfl, _, rfl, ?_⟩
        refine ite2 (fun cl => ?_) (fun _ => ⟨B, Kp.refl _ _, _, rfl⟩)
        have cl' : i < ((xs.map V.int).length : Int) := of_decide_eq_true cl
        rw [List.length_map] at cl'
        have hi : i.toNat < xs.length := by omega
        have ei : ((i.toNat : Nat) : Int) = i := by omega
        have ha : atI (xs.map V.int) i = some (.int xs[i.toNat]) := by
          have q : atI (xs.map V.int) ((i.toNat : Nat) : Int) = some (.int xs[i.toNat]) := atI_nat (by rw [List.getElem?_map, List.getElem?_eq_getElem hi] <;> rfl)
          rw [ei] at q
          exact q
        -- cell = bag[0][bag[1]]
        refine ⟨_, rfl, b, _, _, _, rfl, rfl, SqL.of h1, at4_0 _ _ _ _, _, rfl, b, _, _, _, rfl, rfl, SqL.of h1, at4_1 _ _ _ _, c, _, _, _, rfl, rfl, SqL.of h2, ha, ?_⟩
        -- bag[1] = bag[1] + 1
        refine ⟨_, rfl, b, _, _, _, rfl, rfl, SqL.of h1, at4_1 _ _ _ _, _, _, rfl, rfl, _, rfl, b, _, _, 1, rfl, rfl, h1, rfl, ?_⟩
        have g1 : (upd H b (.lst [.ref c, .int (i + 1), .int 0, .int seed])) b = some (.lst [.ref c, .int (i + 1), .int 0, .int seed]) := upd_same
        have g2 : (upd H b (.lst [.ref c, .int (i + 1), .int 0, .int seed])) c = some (.lst (xs.map V.int)) := by rw [upd_ne ne.symm]; exact h2
        -- if cell >= 10 ** 18
        refine ⟨_, rfl, _, _, rfl, rfl, ⟨by decide, by decide, by decide⟩, _, _, rfl, rfl, _, rfl, ?_⟩
        refine ite2 (fun cc => ?_) (fun _ => ?_)
        · have cc' : (10 : Int) ^ (18 : Int).toNat ≤ xs[i.toNat] := of_decide_eq_true cc
          have c0 : 0 ≤ xs[i.toNat] := Int.le_trans (by decide) cc'
          refine ⟨_, rfl, _, rfl, b, _, _, 2, rfl, rfl, g1, rfl, ?_⟩
          exact ⟨bag_put rfl g2 ne h3 (by omega) c0 h6 h7, (Kp.put h1).trans (Kp.put g1), _, rfl⟩
        · refine ⟨_, rfl, b, _, _, _, rfl, rfl, SqL.of g1, at4_3 _ _ _ _, _, _, rfl, rfl, .inr ⟨by decide, by decide⟩, _, rfl, .inl ⟨_, rfl, _, _, rfl, rfl, (by show (0 : Int) < _; decide), _, _, rfl, rfl, .inr ⟨by decide, by decide⟩, _, _, rfl, rfl, _, _, rfl, rfl, .inl ⟨_, rfl, _, _, rfl, rfl, (by show (0 : Int) < _; decide), ?_⟩⟩⟩
          refine ⟨_, rfl, b, _, _, 3, rfl, rfl, g1, rfl, ?_⟩
          have q := emod_bd (seed * 40699 + xs[i.toNat] % 2147483587 * 69691 + 13) (m := 2147483647) (by decide)
          exact ⟨bag_put rfl g2 ne h3 (by omega) (by decide) q.1 q.2, (Kp.put h1).trans (Kp.put g1), _, rfl⟩
      · exact ite_f (dne c0) (ite_f rfl ⟨B, Kp.refl _ _, _, rfl⟩)
    · rintro σ H1 ⟨B1, kp, v, rfl⟩
      obtain ⟨c, xs, i, hold, seed, h1, h2, ne, h3, h4, h5, h6, h7⟩ := B1.ex
      refine ⟨_, rfl, b, _, _, _, rfl, rfl, SqL.of h1, at4_2 _ _ _ _, _, _, rfl, rfl, _, rfl, ?_⟩
      refine ite2 (fun _ => ?_) (fun _ => ?_)
      · -- got = int(bag[2]) % amount; bag[2] = bag[2] // amount; return got
        refine ⟨_, rfl, b, _, _, _, rfl, rfl, SqL.of h1, at4_2 _ _ _ _, .inl ⟨_, rfl, _, rfl, _, _, rfl, rfl, hn, ?_⟩⟩
        refine ⟨_, rfl, b, _, _, _, rfl, rfl, SqL.of h1, at4_2 _ _ _ _, _, rfl, _, _, rfl, rfl, wide_div hn (b := 62) (by omega) (by decide) (by decide), _, rfl, b, _, _, 2, rfl, rfl, h1, rfl, _, rfl, ?_⟩
        have q := emod_bd hold (m := n) hn
        exact k _ _ q.1 q.2 (bag_put rfl h2 ne h3 h4 (Int.ediv_nonneg h5 (by omega)) h6 h7) (kp.trans (Kp.put h1))
      · -- seed = bag[3]
        refine ⟨_, rfl, b, _, _, _, rfl, rfl, SqL.of h1, at4_3 _ _ _ _, ?_⟩
        refine ⟨_, rfl, _, rfl, _, _, rfl, rfl, .inr ⟨by omega, by omega⟩, _, rfl, _, _, rfl, rfl, .inr ⟨by decide, by decide⟩, _, _, rfl, rfl, _, _, rfl, rfl, .inl ⟨_, rfl, _, _, rfl, rfl, (by show (0 : Int) < _; decide), _, rfl, b, _, _, 3, rfl, rfl, h1, rfl, ?_⟩⟩
        have g1 : ∀ z : Int, (upd H1 b (.lst [.ref c, .int i, .int hold, .int z])) b = some (.lst [.ref c, .int i, .int hold, .int z]) := fun _ => upd_same
        refine ⟨_, rfl, b, _, _, _, rfl, rfl, SqL.of (g1 _), at4_3 _ _ _ _, _, _, rfl, rfl, ⟨by decide, by decide⟩, _, rfl, b, _, _, _, rfl, rfl, SqL.of (g1 _), at4_3 _ _ _ _, .inl ⟨_, rfl, _, _, rfl, rfl, (by show (0 : Int) < _; decide), _, _, rfl, rfl, .inr ⟨by decide, by decide⟩, _, _, rfl, rfl, .inl ⟨_, rfl, _, rfl, _, _, rfl, rfl, hn, ?_⟩⟩⟩
        have q := emod_bd (seed * seed + seed * 48271 + 1013904227) (m := 2147483647) (by decide)
        have r := emod_bd ((seed * seed + seed * 48271 + 1013904227) % 2147483647 / 97 + (seed * seed + seed * 48271 + 1013904227) % 2147483647 % 8191 * 67) (m := n) hn
        exact k _ _ r.1 r.2 (bag_put rfl h2 ne h3 h4 h5 q.1 q.2) (kp.trans (Kp.put h1))

/-! ### _law_of -/
/-- one of the things of a list, whichever -/
def sp__law_of (K : PySem.W.Frag) : Sp := fun vs H Q _ => ∃ (b t : Addr) (xs : List V), vs = [.ref b, .ref t] ∧ Bag H b ∧ t ≠ b ∧ SqL K H t xs ∧ 0 < xs.length ∧ xs.length ≤ 1000 ∧ ∀ (i : Nat) (v : V) (H' : Hp), xs[i]? = some v → Bag H' b → Kp b H H' → Q v H'

theorem sc__law_of : FnScope ["bag", "things"] ["bag", "things"] (defScope s__law_of) := ⟨rfl, rfl, rfl, by decide +kernel, rfl, by decide +kernel, by decide +kernel⟩
theorem ok__law_of (E : En K mg) (G__law_pull : Good P w K mg base CX0 1 "_law_pull" ["bag", "amount"] (sp__law_pull K)) : Good P w K mg base CX0 2 "_law_of" ["bag", "things"] (sp__law_of K) := by
  obtain ⟨fd, F⟩ := E.says.def_ 16 (d := d__law_of) rfl
  refine ⟨fd, ?_, F.bindsN fun _ _ _ _ _ _ us hl => match us, hl with | [_, _], _ => rfl, F.kp, E.gl "_law_of"⟩
  refine F.ok sc__law_of (fun vs H Q E' h => ?_) (fun cdv A outer s H vs Q E' hr h => ?_)
  · obtain ⟨b, t, xs, rfl, _⟩ := h; rfl
  · have hu64 := hu64_of hr
    refine ⟨_, PSs.nox (pss_one (ps_ret (pe_ix ix_list (pv 1) (pe_G G__law_pull (hr.mono (by decide)) rfl pass0 (pa_cons (pv 0) (pa_cons (pe_callB call_len_seq (by rfl) (E.fr "len") (by decide +kernel) (pa_cons (pv 1) pa_nil)) pa_nil))) (fun _ _ => rfl)))), ?_⟩
    obtain ⟨b, t, xs, rfl, B, ne, hS, h0, h1, k⟩ := h
    refine ⟨_, rfl, _, rfl, _, rfl, t, xs, rfl, .inl hS, ?_⟩
    refine ⟨b, _, rfl, B, by omega, by omega, fun r H' r0 r1 B' kp => ?_⟩
    have hi : r.toNat < xs.length := by omega
    have ei : ((r.toNat : Nat) : Int) = r := by omega
    have ha : atI xs r = some xs[r.toNat] := by
      have q : atI xs ((r.toNat : Nat) : Int) = some xs[r.toNat] := atI_nat (List.getElem?_eq_getElem hi)
      rw [ei] at q
      exact q
    exact ⟨t, xs, _, _, rfl, rfl, kp.seq ne hS, ha, k r.toNat _ H' (List.getElem?_eq_getElem hi) B' kp⟩

/-! ### _law_spoilt -/
/-- five parts of which one makes them no table -/
def sp__law_spoilt (K : PySem.W.Frag) : Sp := fun vs H Q _ => ∃ (b : Addr) (v : V) (t : Tb), vs = [.ref b, v] ∧ Bag H b ∧ Dp K H v (tabD t) ∧ Tok t ∧ t.rows.length ≤ 500 ∧ ∀ (v' : V) (H' : Hp), BadT K H' v' → Bag H' b → Kp b H H' → Q v' H'
/-- behind so many odd ones -/
def OddP (K : PySem.W.Frag) (H1 : Hp) (l : L2.St) (k : Nat) : L2.St → Hp → Prop := fun σ H' => ∃ (D : Addr) (xs : List V), σ = l ++ [some (.ref D)] ∧ Same H1 H' ∧ H' D = some (.lst xs) ∧ xs.length = k ∧ ∀ x ∈ xs, BadT K H' x

theorem sc__law_spoilt : FnScope ["bag", "table", "size", "flats", "steeps", "starts", "rows", "at", "row", "odd"] ["bag", "table"] (defScope s__law_spoilt) := ⟨rfl, rfl, rfl, by decide +kernel, rfl, by decide +kernel, by decide +kernel⟩
theorem ok__law_spoilt (E : En K mg) (G__law_of : Good P w K mg base CX0 2 "_law_of" ["bag", "things"] (sp__law_of K)) (G__law_pull : Good P w K mg base CX0 1 "_law_pull" ["bag", "amount"] (sp__law_pull K)) : Good P w K mg base CX0 3 "_law_spoilt" ["bag", "table"] (sp__law_spoilt K) := by
  obtain ⟨fd, F⟩ := E.says.def_ 17 (d := d__law_spoilt) rfl
  refine ⟨fd, ?_, F.bindsN fun _ _ _ _ _ _ us hl => match us, hl with | [_, _], _ => rfl, F.kp, E.gl "_law_spoilt"⟩
  refine F.ok sc__law_spoilt (fun vs H Q E' h => ?_) (fun cdv A outer s H vs Q E' hr h => ?_)
  · obtain ⟨b, v, t, rfl, _⟩ := h; rfl
  · have hu64 := hu64_of hr
    refine ⟨_, PSs.nox (pss_cons (ps_asg (pv 1) (pg_tup rfl (pgs_cons (pg_name (i := 2) sc__law_spoilt.nd rfl (by first | exact Or.inl rfl | exact Or.inr rfl)) (pgs_cons (pg_name (i := 3) sc__law_spoilt.nd rfl (by first | exact Or.inl rfl | exact Or.inr rfl)) (pgs_cons (pg_name (i := 4) sc__law_spoilt.nd rfl (by first | exact Or.inl rfl | exact Or.inr rfl)) (pgs_cons (pg_name (i := 5) sc__law_spoilt.nd rfl (by first | exact Or.inl rfl | exact Or.inr rfl)) (pgs_cons (pg_name (i := 6) sc__law_spoilt.nd rfl (by first | exact Or.inl rfl | exact Or.inr rfl)) pgs_nil)))))))
      (pss_cons (ps_set (i := 7) sc__law_spoilt.nd rfl (by first | exact Or.inl rfl | exact Or.inr rfl) (pe_G G__law_pull (hr.mono (by decide)) rfl pass0 (pa_cons (pv 0) (pa_cons (pe_callB call_len_seq (by rfl) (E.fr "len") (by decide +kernel) (pa_cons (pv 6) pa_nil)) pa_nil))))
      (pss_cons (ps_set (i := 8) sc__law_spoilt.nd rfl (by first | exact Or.inl rfl | exact Or.inr rfl) (pe_G G__law_of (hr.mono (by decide)) rfl pass0 (pa_cons (pv 0) (pa_cons (pe_lst (pa_cons (pe_tup (pa_cons (pe_callB call_len_seq (by rfl) (E.fr "len") (by decide +kernel) (pa_cons (pv 6) pa_nil)) (pa_cons pe_int (pa_cons pe_bl pa_nil)))) (pa_cons (pe_tup (pa_cons pe_int (pa_cons (pe_un un_neg pe_int) (pa_cons pe_bl pa_nil)))) (pa_cons (pe_tup (pa_cons pe_int (pa_cons pe_int (pa_cons pe_int pa_nil)))) (pa_cons (pe_tup (pa_cons pe_int (pa_cons pe_int pa_nil))) (pa_cons (pe_tup (pa_cons pe_bl (pa_cons pe_int (pa_cons pe_bl pa_nil)))) (pa_cons pe_non (pa_cons (pe_tup (pa_cons pe_int (pa_cons pe_str (pa_cons pe_bl pa_nil)))) (pa_cons (pe_tup pa_nil) pa_nil))))))))) pa_nil))))
      (C8.pss_cut (ps_set (i := 9) sc__law_spoilt.nd rfl (by first | exact Or.inl rfl | exact Or.inr rfl) (pe_lst (pa_cons (pe_tup (pa_cons pe_int (pa_cons (pv 3) (pa_cons (pv 4) (pa_cons (pv 5) (pa_cons (pv 6) pa_nil)))))) (pa_cons (pe_tup (pa_cons pe_int (pa_cons (pv 3) (pa_cons (pv 4) (pa_cons (pv 5) (pa_cons (pv 6) pa_nil)))))) (pa_cons (pe_tup (pa_cons pe_bl (pa_cons (pv 3) (pa_cons (pv 4) (pa_cons (pv 5) (pa_cons (pv 6) pa_nil)))))) pa_nil)))))
      (C8.pss_cut (ps_set (i := 9) sc__law_spoilt.nd rfl (by first | exact Or.inl rfl | exact Or.inr rfl) (pe_op op_cat (pv 9) (pe_lst (pa_cons (pe_tup (pa_cons (pv 2) (pa_cons (pe_op op_catA (pv 3) (pe_tup (pa_cons pe_bl pa_nil))) (pa_cons (pv 4) (pa_cons (pv 5) (pa_cons (pv 6) pa_nil)))))) (pa_cons (pe_tup (pa_cons (pv 2) (pa_cons (pv 3) (pa_cons (pe_slice (show SlR _ (rSlA K) from sl_tupA) (pv 4) po_none (po_some (pe_un un_neg pe_int))) (pa_cons (pv 5) (pa_cons (pv 6) pa_nil)))))) pa_nil)))))
      (C8.pss_cut (ps_set (i := 9) sc__law_spoilt.nd rfl (by first | exact Or.inl rfl | exact Or.inr rfl) (pe_op op_cat (pv 9) (pe_lst (pa_cons (pe_tup (pa_cons (pv 2) (pa_cons (pe_op (show OpR _ _ (rRepTA K) from op_repTA) (pe_tup (pa_cons pe_int pa_nil)) (pv 2)) (pa_cons (pv 4) (pa_cons (pv 5) (pa_cons (pv 6) pa_nil)))))) (pa_cons (pe_tup (pa_cons (pv 2) (pa_cons (pv 3) (pa_cons pe_non (pa_cons (pv 5) (pa_cons (pv 6) pa_nil)))))) (pa_cons (pe_tup (pa_cons (pv 2) (pa_cons (pv 3) (pa_cons (pv 4) (pa_cons (pe_tup pa_nil) (pa_cons (pv 6) pa_nil)))))) pa_nil))))))
      (C8.pss_cut (ps_set (i := 9) sc__law_spoilt.nd rfl (by first | exact Or.inl rfl | exact Or.inr rfl) (pe_op op_cat (pv 9) (pe_lst (pa_cons (pe_tup (pa_cons (pv 2) (pa_cons (pv 3) (pa_cons (pv 4) (pa_cons (pe_op op_catA (pv 5) (pe_tup (pa_cons pe_int pa_nil))) (pa_cons (pv 6) pa_nil)))))) (pa_cons (pe_tup (pa_cons (pv 2) (pa_cons (pv 3) (pa_cons (pv 4) (pa_cons (pe_op (show OpR _ _ (rRepTA K) from op_repTA) (pe_tup (pa_cons (pe_callB call_len_seq (by rfl) (E.fr "len") (by decide +kernel) (pa_cons (pv 6) pa_nil)) pa_nil)) (pv 2)) (pa_cons (pv 6) pa_nil)))))) pa_nil)))))
      (C8.pss_cut (ps_set (i := 9) sc__law_spoilt.nd rfl (by first | exact Or.inl rfl | exact Or.inr rfl) (pe_op op_cat (pv 9) (pe_lst (pa_cons (pe_tup (pa_cons (pv 2) (pa_cons (pv 3) (pa_cons (pv 4) (pa_cons (pe_op (show OpR _ _ (rRepTA K) from op_repTA) (pe_tup (pa_cons (pe_un un_neg pe_int) pa_nil)) (pv 2)) (pa_cons (pv 6) pa_nil)))))) (pa_cons (pe_tup (pa_cons (pv 2) (pa_cons (pv 3) (pa_cons (pv 4) (pa_cons (pv 5) (pa_cons (pe_tup pa_nil) pa_nil)))))) (pa_cons (pe_tup (pa_cons pe_non (pa_cons (pv 3) (pa_cons (pv 4) (pa_cons (pv 5) (pa_cons (pv 6) pa_nil)))))) pa_nil))))))
      (C8.pss_cut (ps_set (i := 9) sc__law_spoilt.nd rfl (by first | exact Or.inl rfl | exact Or.inr rfl) (pe_op op_cat (pv 9) (pe_lst (pa_cons (pe_tup (pa_cons (pv 2) (pa_cons (pv 3) (pa_cons (pv 4) (pa_cons (pe_op (show OpR _ _ (rRepTA K) from op_repTA) (pe_tup (pa_cons pe_bl pa_nil)) (pv 2)) (pa_cons (pv 6) pa_nil)))))) (pa_cons (pe_tup (pa_cons (pv 2) (pa_cons (pv 3) (pa_cons (pv 4) (pa_cons (pv 5) (pa_cons pe_non pa_nil)))))) (pa_cons (pe_tup (pa_cons (pv 2) (pa_cons pe_str (pa_cons (pv 4) (pa_cons (pv 5) (pa_cons (pv 6) pa_nil)))))) pa_nil))))))
      (pss_one (ps_ret (pe_G G__law_of (hr.mono (by decide)) rfl pass0 (pa_cons (pv 0) (pa_cons (pe_op op_cat (pv 9) (pe_op op_rep (pe_lst (pa_cons (pe_tup (pa_cons (pv 2) (pa_cons (pv 3) (pa_cons (pv 4) (pa_cons (pv 5) (pa_cons (pe_op op_catA (pe_op op_catA (pe_slice (show SlR _ (rSlA K) from sl_tupA) (pv 6) po_none (po_some (pv 7))) (pe_tup (pa_cons (pv 8) pa_nil))) (pe_slice (show SlR _ (rSlA K) from sl_tupA) (pv 6) (po_some (pe_op op_add (pv 7) pe_int)) po_none)) pa_nil)))))) pa_nil)) pe_int)) pa_nil)))))))))))))), ?_⟩
    obtain ⟨b, v, t, rfl, B, hD, ok, lr, k⟩ := h
    obtain ⟨a, f, st, bg, r, rfl, T⟩ := Dp.tab hD
    obtain ⟨fa, rfl, _⟩ := Dp.bools T.fd
    obtain ⟨sa, rfl, _⟩ := Dp.bools T.sd
    obtain ⟨ba, rfl, _⟩ := Dp.nats T.bd
    obtain ⟨ra, us, rfl, hR, hl, hrow⟩ := Dp.rows T.rd
    have m0 := ok.m0
    have r0 := ok.r0
    have s0 : 0 ≤ sizeLine := by decide
    have s1 : 1 ≤ sizeLine := by decide
    have s2 : 2 ≤ sizeLine := by decide
    have s3 : 3 ≤ sizeLine := by decide
    have s5 : 5 ≤ sizeLine := by decide
    have s8 : 8 ≤ sizeLine := by decide
    refine ⟨_, rfl, a, _, rfl, T.sq, rfl, _, _, rfl, _, _, rfl, _, _, rfl, _, _, rfl, _, _, rfl, rfl, ?_⟩
    -- at = _law_pull(bag, len(rows))
    refine ⟨_, rfl, _, rfl, ra, us, rfl, .inr hR, b, _, rfl, B, by omega, by omega, fun at' H2 a0 a1 B2 k2 => ?_⟩
    have st2 := B.sameT k2
    have hR2 := st2.seqT hR
    -- row
    refine ⟨_, rfl, _, rfl, ra, us, rfl, .inr hR2, s3, fun p1 h1 => ?_⟩
    refine ⟨_, rfl, s3, fun p2 h2 => ⟨s3, fun p3 h3 => ⟨s2, fun p4 h4 => ⟨s3, fun p5 h5 => ⟨s3, fun p6 h6 => ⟨s0, fun p7 h7 => ⟨s8, fun l hl' => ?_⟩⟩⟩⟩⟩⟩⟩
    have q1 := badR_new (K := K) (n := us.length) (xs := [.int ((us.length : Nat) : Int), .int 0, .bl true]) (ds := [.int ((us.length : Nat) : Int), .int 0, .bool true]) h1 (.cons (.int _) (.cons (.int _) (.cons (.bl _) .nil))) rfl (by simp [rowOkD, spotD, isBoolD])
    have q2 := badR_new (K := K) (n := us.length) (xs := [.int 0, .int (-1), .bl false]) (ds := [.int 0, .int (-1), .bool false]) h2 (.cons (.int _) (.cons (.int _) (.cons (.bl _) .nil))) rfl (by simp [rowOkD, spotD, isBoolD])
    have q3 := badR_new (K := K) (n := us.length) (xs := [.int 0, .int 0, .int 1]) (ds := [.int 0, .int 0, .int 1]) h3 (.cons (.int _) (.cons (.int _) (.cons (.int _) .nil))) rfl rfl
    have q4 := badR_new (K := K) (n := us.length) (xs := [.int 0, .int 0]) (ds := [.int 0, .int 0]) h4 (.cons (.int _) (.cons (.int _) .nil)) rfl rfl
    have q5 := badR_new (K := K) (n := us.length) (xs := [.bl true, .int 0, .bl true]) (ds := [.bool true, .int 0, .bool true]) h5 (.cons (.bl _) (.cons (.int _) (.cons (.bl _) .nil))) rfl rfl
    have q6 := badR_new (K := K) (n := us.length) (xs := [.int 0, .str "0", .bl true]) (ds := [.int 0, .str "0", .bool true]) h6 (.cons (.int _) (.cons (.str _) (.cons (.bl _) .nil))) rfl (by simp [rowOkD, spotD, isBoolD])
    have q7 := badR_new (K := K) (n := us.length) (xs := []) (ds := []) h7 .nil rfl rfl
    have f8 := same_new (o := .lst [.ref p1, .ref p2, .ref p3, .ref p4, .ref p5, .non, .ref p6, .ref p7]) hl'
    have f7 := (same_new (o := .tup []) h7).trans f8
    have f6 := (same_new (o := .tup [.int 0, .str "0", .bl true]) h6).trans f7
    have f5 := (same_new (o := .tup [.bl true, .int 0, .bl true]) h5).trans f6
    have f4 := (same_new (o := .tup [.int 0, .int 0]) h4).trans f5
    have f3 := (same_new (o := .tup [.int 0, .int 0, .int 1]) h3).trans f4
    have f2 := (same_new (o := .tup [.int 0, .int (-1), .bl false]) h2).trans f3
    have f1 := (same_new (o := .tup [.int ((us.length : Nat) : Int), .int 0, .bl true]) h1).trans f2
    have BL := B2.keep f1
    have hall : ∀ x ∈ ([.ref p1, .ref p2, .ref p3, .ref p4, .ref p5, .non, .ref p6, .ref p7] : List V), BadR K _ us.length x := List.forall_mem_cons.mpr ⟨q1.same f2, List.forall_mem_cons.mpr ⟨q2.same f3, List.forall_mem_cons.mpr ⟨q3.same f4, List.forall_mem_cons.mpr ⟨q4.same f5, List.forall_mem_cons.mpr ⟨q5.same f6, List.forall_mem_cons.mpr ⟨⟨.none, .non, rfl, rfl⟩, List.forall_mem_cons.mpr ⟨q6.same f7, List.forall_mem_cons.mpr ⟨q7.same f8, fun x hx => absurd hx List.not_mem_nil⟩⟩⟩⟩⟩⟩⟩⟩
    refine ⟨b, l, _, rfl, BL, fun z => ?_, SqL.of upd_same, (by show 0 < 8; decide), (by show 8 ≤ 1000; decide), fun j rowv H3 hv B3 k3 => ?_⟩
    · have := (B2.keep ((same_new (o := .tup [.int ((us.length : Nat) : Int), .int 0, .bl true]) h1).trans ((same_new (o := .tup [.int 0, .int (-1), .bl false]) h2).trans ((same_new (o := .tup [.int 0, .int 0, .int 1]) h3).trans ((same_new (o := .tup [.int 0, .int 0]) h4).trans ((same_new (o := .tup [.bl true, .int 0, .bl true]) h5).trans ((same_new (o := .tup [.int 0, .str "0", .bl true]) h6).trans (same_new (o := .tup []) h7))))))))
      exact this.ne hl' z
    have bR : BadR K H3 us.length rowv := (hall rowv (List.mem_of_getElem? hv)).sameT (BL.sameT k3)
    have st3 : SameT H H3 := st2.trans ((SameT.of f1).trans (BL.sameT k3))
    have kk3 : Kp b H H3 := k2.trans ((Kp.of f1).trans k3)
    have hf := Dp.sameT st3 (noL_bools _) T.fd
    have hs := Dp.sameT st3 (noL_bools _) T.sd
    have hb := Dp.sameT st3 (noL_nats _) T.bd
    have hr' := Dp.sameT st3 (noL_rows _) T.rd
    clear hall q1 q2 q3 q4 q5 q6 q7 f1 f2 f3 f4 f5 f6 f7 f8 h1 h2 h3 h4 h5 h6 h7 hl' BL st2 hR2 B2 k2 hv k3 hR hrow
    have lrr : lenD (rowsD t.rows) ≤ 1000 := by show (t.rows.map rowD).length ≤ 1000; rw [List.length_map]; omega
    have lbb : lenD (natsD t.starts) ≤ 1000 := by show (t.starts.map _).length ≤ 1000; rw [List.length_map, ok.tl]; omega
    have bF : ∀ {HH : Hp} {p : Addr} {m' : V} {dm : PyData}, Same H3 HH → HH p = none → Dp K HH m' dm → noL dm = true → tableD dm (boolsD t.flats) (boolsD t.steeps) (natsD t.starts) (rowsD t.rows) = false → BadT K (upd HH p (.tup [m', .ref fa, .ref sa, .ref ba, .ref ra])) (.ref p) :=
      fun e h hm nm no => bad_new h hm (Dp.same e hf) (Dp.same e hs) (Dp.same e hb) (Dp.same e hr') lrr lbb nm (noL_bools _) (noL_bools _) (noL_nats _) (noL_rows _) no
    have bf : ∀ {HH : Hp} {p : Addr} {f' : V} {df : PyData}, Same H3 HH → HH p = none → Dp K HH f' df → noL df = true → tableD (.int (t.m : Int)) df (boolsD t.steeps) (natsD t.starts) (rowsD t.rows) = false → BadT K (upd HH p (.tup [.int (t.m : Int), f', .ref sa, .ref ba, .ref ra])) (.ref p) :=
      fun e h hm nm no => bad_new h (.int _) hm (Dp.same e hs) (Dp.same e hb) (Dp.same e hr') lrr lbb rfl nm (noL_bools _) (noL_nats _) (noL_rows _) no
    have bs : ∀ {HH : Hp} {p : Addr} {s' : V} {ds : PyData}, Same H3 HH → HH p = none → Dp K HH s' ds → noL ds = true → tableD (.int (t.m : Int)) (boolsD t.flats) ds (natsD t.starts) (rowsD t.rows) = false → BadT K (upd HH p (.tup [.int (t.m : Int), .ref fa, s', .ref ba, .ref ra])) (.ref p) :=
      fun e h hm nm no => bad_new h (.int _) (Dp.same e hf) hm (Dp.same e hb) (Dp.same e hr') lrr lbb rfl (noL_bools _) nm (noL_nats _) (noL_rows _) no
    have bb : ∀ {HH : Hp} {p : Addr} {b' : V} {db : PyData}, Same H3 HH → HH p = none → Dp K HH b' db → lenD db ≤ 1000 → noL db = true → tableD (.int (t.m : Int)) (boolsD t.flats) (boolsD t.steeps) db (rowsD t.rows) = false → BadT K (upd HH p (.tup [.int (t.m : Int), .ref fa, .ref sa, b', .ref ra])) (.ref p) :=
      fun e h hm lb nm no => bad_new h (.int _) (Dp.same e hf) (Dp.same e hs) hm (Dp.same e hr') lrr lb rfl (noL_bools _) (noL_bools _) nm (noL_rows _) no
    have br : ∀ {HH : Hp} {p : Addr} {r' : V} {dr : PyData}, Same H3 HH → HH p = none → Dp K HH r' dr → lenD dr ≤ 1000 → noL dr = true → tableD (.int (t.m : Int)) (boolsD t.flats) (boolsD t.steeps) (natsD t.starts) dr = false → BadT K (upd HH p (.tup [.int (t.m : Int), .ref fa, .ref sa, .ref ba, r'])) (.ref p) :=
      fun e h hm lr nm no => bad_new h (.int _) (Dp.same e hf) (Dp.same e hs) (Dp.same e hb) hm lr lbb rfl (noL_bools _) (noL_bools _) (noL_nats _) nm no
    obtain ⟨_, ef, hfS⟩ := Dp.bools hf
    cases ef
    obtain ⟨_, es, hsS⟩ := Dp.bools hs
    cases es
    obtain ⟨_, eb, hbS⟩ := Dp.nats hb
    cases eb
    obtain ⟨_, us2, er, hrS, hrA⟩ := Dp.tup' hr'
    cases er
    have hl2 : us2.length = t.rows.length := by rw [DpAll.length hrA, List.length_map]
    have lfl : (t.flats.map V.bl).length = t.m := by rw [List.length_map, ok.fl]
    have lsl : (t.steeps.map V.bl).length = t.m := by rw [List.length_map, ok.sl]
    have ltl : (t.starts.map fun n : Nat => V.int (n : Int)).length = t.m := by rw [List.length_map, ok.tl]
    have tmn : ((t.m : Int)).toNat = t.m := by omega
    -- odd = [..]
    refine ⟨OddP K H3 [some (.ref b), some (.ref a), some (.int (t.m : Int)), some (.ref fa), some (.ref sa), some (.ref ba), some (.ref ra), some (.int at'), some rowv] 3, ?_, ?_⟩
    · refine ⟨_, rfl, _, rfl, _, rfl, _, rfl, s5, fun p1 h1 => ⟨_, rfl, _, rfl, _, rfl, _, rfl, s5, fun p2 h2 => ⟨_, rfl, _, rfl, _, rfl, _, rfl, s5, fun p3 h3 => ⟨s3, fun q hq => ?_⟩⟩⟩⟩
      have e1 := same_new (o := .tup [.int 4, .ref fa, .ref sa, .ref ba, .ref ra]) h1
      have e2 := same_new (o := .tup [.int 0, .ref fa, .ref sa, .ref ba, .ref ra]) h2
      have e3 := same_new (o := .tup [.bl true, .ref fa, .ref sa, .ref ba, .ref ra]) h3
      have eq := same_new (o := .lst [.ref p1, .ref p2, .ref p3]) hq
      refine ⟨q, _, rfl, e1.trans (e2.trans (e3.trans eq)), upd_same, rfl, List.forall_mem_cons.mpr ⟨?_, List.forall_mem_cons.mpr ⟨?_, List.forall_mem_cons.mpr ⟨?_, fun x hx => absurd hx List.not_mem_nil⟩⟩⟩⟩
      · exact (bF (Same.refl _) h1 (.int 4) rfl (by simp [tableD, inMod])).same (e2.trans (e3.trans eq))
      · exact (bF e1 h2 (.int 0) rfl (by simp [tableD, inMod])).same (e3.trans eq)
      · exact (bF (e1.trans e2) h3 (.bl true) rfl rfl).same eq
    rintro σ H4 ⟨D, xs, rfl, e4, hD4, lx, hx⟩
    -- flats + (True,), steeps[:-1]
    refine ⟨OddP K H3 [some (.ref b), some (.ref a), some (.int (t.m : Int)), some (.ref fa), some (.ref sa), some (.ref ba), some (.ref ra), some (.int at'), some rowv] 5, ?_, ?_⟩
    · refine ⟨_, rfl, _, rfl, _, rfl, s1, fun p hp => ?_⟩
      have ep := same_new (o := .tup [.bl true]) hp
      refine catA_ok (seqT (e4.trans ep) hfS) (SqT.of upd_same) (by rw [lfl]; show t.m + 1 ≤ _; omega) fun qf Hf ef hqf => ?_
      refine ⟨_, rfl, _, rfl, _, rfl, s5, fun p1 h1 => ?_⟩
      have e1 := same_new (o := .tup [.int (t.m : Int), .ref qf, .ref sa, .ref ba, .ref ra]) h1
      have g1 := e4.trans (ep.trans ef)
      have b1 := bf g1 h1 (.tup (ds := t.flats.map PyData.bool ++ [.bool true]) hqf (DpAll.append (dpB _) (.cons (.bl _) .nil))) (by rw [noL]; exact noLs_app (noLs_map (f := PyData.bool) (fun _ => rfl) _) rfl) (no_f (truths_len (by rw [List.length_append, List.length_map, ok.fl, tmn]; show t.m + 1 ≠ t.m; omega)))
      refine ⟨_, rfl, _, rfl, _, rfl, _, rfl, _, rfl, ?_⟩
      refine slA_any (seqT (g1.trans e1) hsS) fun qs Hs es hqs => ?_
      refine ⟨_, rfl, _, rfl, s5, fun p2 h2 => ⟨s2, fun q hq => ?_⟩⟩
      have g2 := (g1.trans e1).trans es
      have e2 := same_new (o := .tup [.int (t.m : Int), .ref fa, .ref qs, .ref ba, .ref ra]) h2
      rw [cut_last (by rw [lsl]; omega), lsl, ← List.map_take] at hqs
      have b2 := bs g2 h2 (.tup (ds := (t.steeps.take (t.m - 1)).map PyData.bool) hqs (dpB _)) (by rw [noL]; exact noLs_map (f := PyData.bool) (fun _ => rfl) _) (no_s (truths_len (by rw [List.length_map, List.length_take, ok.sl, tmn]; omega)))
      have eA : Same H4 _ := (ep.trans ef).trans (e1.trans (es.trans e2))
      refine ⟨D, q, xs, _, rfl, rfl, (same_new hq) _ _ (eA _ _ hD4), upd_same, (by rw [lx]; show 3 + 2 ≤ sizeLine; decide), fun D2 hD2 => ?_⟩
      obtain ⟨r1, r2, r3⟩ := odd_cat (K := K) e4 hD4 hx eA (List.forall_mem_cons.mpr ⟨b1.same (es.trans e2), List.forall_mem_cons.mpr ⟨b2, fun x hx => absurd hx List.not_mem_nil⟩⟩) hq hD2
      exact ⟨D2, _, rfl, r1, r2, by rw [List.length_append, lx]; rfl, r3⟩
    clear hD4 lx hx
    rintro σ H4 ⟨D, xs, rfl, e4, hD4, lx, hx⟩
    -- (1,) * size, None, ()
    refine ⟨OddP K H3 [some (.ref b), some (.ref a), some (.int (t.m : Int)), some (.ref fa), some (.ref sa), some (.ref ba), some (.ref ra), some (.int at'), some rowv] 8, ?_, ?_⟩
    · refine ⟨_, rfl, _, rfl, s1, fun p hp => ⟨_, rfl, ?_⟩⟩
      have ep := same_new (o := .tup [.int 1]) hp
      refine repTA_ok (x := .int 1) (SqT.of upd_same) (by omega) (by omega) fun qf Hf ef hqf => ?_
      refine ⟨_, rfl, _, rfl, _, rfl, s5, fun p1 h1 => ?_⟩
      have e1 := same_new (o := .tup [.int (t.m : Int), .ref qf, .ref sa, .ref ba, .ref ra]) h1
      have g1 := e4.trans (ep.trans ef)
      have b1 := bf g1 h1 (.tup hqf (dpRep (.int 1) _)) (by rw [noL]; exact noLs_rep rfl _) (no_f (by rw [tmn]; exact truths_rep (by omega) rfl))
      refine ⟨_, rfl, _, rfl, _, rfl, _, rfl, s5, fun p2 h2 => ?_⟩
      have e2 := same_new (o := .tup [.int (t.m : Int), .ref fa, .non, .ref ba, .ref ra]) h2
      have b2 := bs (g1.trans e1) h2 .non rfl (no_s rfl)
      refine ⟨_, rfl, _, rfl, _, rfl, s0, fun p0 h0 => ⟨_, rfl, s5, fun p3 h3 => ⟨s3, fun q hq => ?_⟩⟩⟩
      have e0 := same_new (o := .tup []) h0
      have e3 := same_new (o := .tup [.int (t.m : Int), .ref fa, .ref sa, .ref p0, .ref ra]) h3
      have b3 := bb (((g1.trans e1).trans e2).trans e0) h3 (.tup (ds := []) (SqT.of upd_same) .nil) (Nat.zero_le _) rfl (no_b (starts_len (by show ((0 : Nat) : Int) ≠ (t.m : Int); omega)))
      have eA : Same H4 _ := (ep.trans ef).trans (e1.trans (e2.trans (e0.trans e3)))
      refine ⟨D, q, xs, _, rfl, rfl, (same_new hq) _ _ (eA _ _ hD4), upd_same, (by rw [lx]; show 5 + 3 ≤ sizeLine; decide), fun D2 hD2 => ?_⟩
      obtain ⟨r1, r2, r3⟩ := odd_cat (K := K) e4 hD4 hx eA (List.forall_mem_cons.mpr ⟨b1.same (e2.trans (e0.trans e3)), List.forall_mem_cons.mpr ⟨b2.same (e0.trans e3), List.forall_mem_cons.mpr ⟨b3, fun x hx => absurd hx List.not_mem_nil⟩⟩⟩) hq hD2
      exact ⟨D2, _, rfl, r1, r2, by rw [List.length_append, lx]; rfl, r3⟩
    clear hD4 lx hx
    rintro σ H4 ⟨D, xs, rfl, e4, hD4, lx, hx⟩
    -- starts + (0,), (len(rows),) * size
    refine ⟨OddP K H3 [some (.ref b), some (.ref a), some (.int (t.m : Int)), some (.ref fa), some (.ref sa), some (.ref ba), some (.ref ra), some (.int at'), some rowv] 10, ?_, ?_⟩
    · refine ⟨_, rfl, _, rfl, _, rfl, _, rfl, _, rfl, s1, fun p hp => ?_⟩
      have ep := same_new (o := .tup [.int 0]) hp
      refine catA_ok (seqT (e4.trans ep) hbS) (SqT.of upd_same) (by rw [ltl]; show t.m + 1 ≤ _; omega) fun qf Hf ef hqf => ?_
      refine ⟨_, rfl, s5, fun p1 h1 => ?_⟩
      have e1 := same_new (o := .tup [.int (t.m : Int), .ref fa, .ref sa, .ref qf, .ref ra]) h1
      have g1 := e4.trans (ep.trans ef)
      have b1 := bb g1 h1 (.tup (ds := (t.starts.map fun n : Nat => PyData.int (n : Int)) ++ [.int 0]) hqf (DpAll.append (dpN _) (.cons (.int _) .nil))) (by show (_ ++ _ : List PyData).length ≤ 1000; rw [List.length_append, List.length_map, ok.tl]; show t.m + 1 ≤ _; omega) (by rw [noL]; exact noLs_app (noLs_map (f := fun n : Nat => PyData.int (n : Int)) (fun _ => rfl) _) rfl) (no_b (starts_len (by rw [List.length_append, List.length_map, ok.tl]; show ((t.m + 1 : Nat) : Int) ≠ (t.m : Int); omega)))
      refine ⟨_, rfl, _, rfl, _, rfl, _, rfl, ra, us2, rfl, .inr (seqT (g1.trans e1) hrS), s1, fun p' hp' => ⟨_, rfl, ?_⟩⟩
      have ep' := same_new (o := .tup [.int ((us2.length : Nat) : Int)]) hp'
      refine repTA_ok (x := .int ((us2.length : Nat) : Int)) (SqT.of upd_same) (by omega) (by omega) fun qb Hb eb hqb => ?_
      refine ⟨_, rfl, s5, fun p2 h2 => ⟨s2, fun q hq => ?_⟩⟩
      have g2 := ((g1.trans e1).trans ep').trans eb
      have e2 := same_new (o := .tup [.int (t.m : Int), .ref fa, .ref sa, .ref qb, .ref ra]) h2
      have b2 := bb g2 h2 (.tup hqb (dpRep (.int _) _)) (by show (List.replicate _ _ : List PyData).length ≤ 1000; rw [List.length_replicate]; omega) (by rw [noL]; exact noLs_rep rfl _) (no_b (starts_rep (by omega) (by rw [hl2, List.length_map]; simp [spotD])))
      have eA : Same H4 _ := (ep.trans ef).trans (e1.trans (ep'.trans (eb.trans e2)))
      refine ⟨D, q, xs, _, rfl, rfl, (same_new hq) _ _ (eA _ _ hD4), upd_same, (by rw [lx]; show 8 + 2 ≤ sizeLine; decide), fun D2 hD2 => ?_⟩
      obtain ⟨r1, r2, r3⟩ := odd_cat (K := K) e4 hD4 hx eA (List.forall_mem_cons.mpr ⟨b1.same (ep'.trans (eb.trans e2)), List.forall_mem_cons.mpr ⟨b2, fun x hx => absurd hx List.not_mem_nil⟩⟩) hq hD2
      exact ⟨D2, _, rfl, r1, r2, by rw [List.length_append, lx]; rfl, r3⟩
    clear hD4 lx hx
    rintro σ H4 ⟨D, xs, rfl, e4, hD4, lx, hx⟩
    -- (-1,) * size, rows = (), None
    refine ⟨OddP K H3 [some (.ref b), some (.ref a), some (.int (t.m : Int)), some (.ref fa), some (.ref sa), some (.ref ba), some (.ref ra), some (.int at'), some rowv] 13, ?_, ?_⟩
    · refine ⟨_, rfl, _, rfl, _, rfl, _, rfl, _, rfl, s1, fun p hp => ⟨_, rfl, ?_⟩⟩
      have ep := same_new (o := .tup [.int (-1)]) hp
      refine repTA_ok (x := .int (-1)) (SqT.of upd_same) (by omega) (by omega) fun qf Hf ef hqf => ?_
      refine ⟨_, rfl, s5, fun p1 h1 => ?_⟩
      have e1 := same_new (o := .tup [.int (t.m : Int), .ref fa, .ref sa, .ref qf, .ref ra]) h1
      have g1 := e4.trans (ep.trans ef)
      have b1 := bb g1 h1 (.tup hqf (dpRep (.int _) _)) (by show (List.replicate _ _ : List PyData).length ≤ 1000; rw [List.length_replicate]; omega) (by rw [noL]; exact noLs_rep rfl _) (no_b (starts_rep (by omega) (by simp [spotD])))
      refine ⟨_, rfl, _, rfl, _, rfl, _, rfl, s0, fun p0 h0 => ⟨s5, fun p2 h2 => ?_⟩⟩
      have e0 := same_new (o := .tup []) h0
      have e2 := same_new (o := .tup [.int (t.m : Int), .ref fa, .ref sa, .ref ba, .ref p0]) h2
      have b2 := br ((g1.trans e1).trans e0) h2 (.tup (ds := []) (SqT.of upd_same) .nil) (Nat.zero_le _) rfl (no_b (starts_none (by omega)))
      refine ⟨_, rfl, _, rfl, _, rfl, _, rfl, s5, fun p3 h3 => ⟨s3, fun q hq => ?_⟩⟩
      have e3 := same_new (o := .tup [.non, .ref fa, .ref sa, .ref ba, .ref ra]) h3
      have b3 := bF (((g1.trans e1).trans e0).trans e2) h3 .non rfl rfl
      have eA : Same H4 _ := (ep.trans ef).trans (e1.trans (e0.trans (e2.trans e3)))
      refine ⟨D, q, xs, _, rfl, rfl, (same_new hq) _ _ (eA _ _ hD4), upd_same, (by rw [lx]; show 10 + 3 ≤ sizeLine; decide), fun D2 hD2 => ?_⟩
      obtain ⟨r1, r2, r3⟩ := odd_cat (K := K) e4 hD4 hx eA (List.forall_mem_cons.mpr ⟨b1.same (e0.trans (e2.trans e3)), List.forall_mem_cons.mpr ⟨b2.same e3, List.forall_mem_cons.mpr ⟨b3, fun x hx => absurd hx List.not_mem_nil⟩⟩⟩) hq hD2
      exact ⟨D2, _, rfl, r1, r2, by rw [List.length_append, lx]; rfl, r3⟩
    clear hD4 lx hx
    rintro σ H4 ⟨D, xs, rfl, e4, hD4, lx, hx⟩
    -- (True,) * size, rows None, "a"
    refine ⟨OddP K H3 [some (.ref b), some (.ref a), some (.int (t.m : Int)), some (.ref fa), some (.ref sa), some (.ref ba), some (.ref ra), some (.int at'), some rowv] 16, ?_, ?_⟩
    · refine ⟨_, rfl, _, rfl, _, rfl, _, rfl, s1, fun p hp => ⟨_, rfl, ?_⟩⟩
      have ep := same_new (o := .tup [.bl true]) hp
      refine repTA_ok (x := .bl true) (SqT.of upd_same) (by omega) (by omega) fun qf Hf ef hqf => ?_
      refine ⟨_, rfl, s5, fun p1 h1 => ?_⟩
      have e1 := same_new (o := .tup [.int (t.m : Int), .ref fa, .ref sa, .ref qf, .ref ra]) h1
      have g1 := e4.trans (ep.trans ef)
      have b1 := bb g1 h1 (.tup hqf (dpRep (.bl _) _)) (by show (List.replicate _ _ : List PyData).length ≤ 1000; rw [List.length_replicate]; omega) (by rw [noL]; exact noLs_rep rfl _) (no_b (starts_rep (by omega) rfl))
      refine ⟨_, rfl, _, rfl, _, rfl, _, rfl, s5, fun p2 h2 => ?_⟩
      have e2 := same_new (o := .tup [.int (t.m : Int), .ref fa, .ref sa, .ref ba, .non]) h2
      have b2 := br (g1.trans e1) h2 .non (Nat.zero_le _) rfl (no_r rfl)
      refine ⟨_, rfl, _, rfl, _, rfl, _, rfl, s5, fun p3 h3 => ⟨s3, fun q hq => ?_⟩⟩
      have e3 := same_new (o := .tup [.int (t.m : Int), .str "a", .ref sa, .ref ba, .ref ra]) h3
      have b3 := bf ((g1.trans e1).trans e2) h3 (.str "a") rfl (no_f rfl)
      have eA : Same H4 _ := (ep.trans ef).trans (e1.trans (e2.trans e3))
      refine ⟨D, q, xs, _, rfl, rfl, (same_new hq) _ _ (eA _ _ hD4), upd_same, (by rw [lx]; show 13 + 3 ≤ sizeLine; decide), fun D2 hD2 => ?_⟩
      obtain ⟨r1, r2, r3⟩ := odd_cat (K := K) e4 hD4 hx eA (List.forall_mem_cons.mpr ⟨b1.same (e2.trans e3), List.forall_mem_cons.mpr ⟨b2.same e3, List.forall_mem_cons.mpr ⟨b3, fun x hx => absurd hx List.not_mem_nil⟩⟩⟩) hq hD2
      exact ⟨D2, _, rfl, r1, r2, by rw [List.length_append, lx]; rfl, r3⟩
    clear hD4 lx hx
    rintro σ H4 ⟨D, xs, rfl, e4, hD4, lx, hx⟩
    -- return _law_of(bag, odd + [..] * 8)
    obtain ⟨n, rfl⟩ : ∃ n : Nat, at' = (n : Int) := ⟨at'.toNat, by omega⟩
    have hn : n < us2.length := by omega
    refine ⟨_, rfl, _, rfl, _, rfl, _, rfl, _, rfl, _, rfl, _, rfl, _, rfl, _, rfl, ?_⟩
    refine slA_any (seqT e4 hrS) fun q1 H5 e5 hq1 => ?_
    refine ⟨_, rfl, s1, fun p hp => ?_⟩
    have ep := same_new (o := .tup [rowv]) hp
    rw [cut_to' (by omega)] at hq1
    refine catA_ok (seqT ep hq1) (SqT.of upd_same) (by rw [List.length_take]; show _ + 1 ≤ _; omega) fun q2 H6 e6 hq2 => ?_
    refine ⟨_, rfl, _, rfl, _, _, rfl, rfl, _, rfl, ?_⟩
    have g6 := ((e4.trans e5).trans ep).trans e6
    dsimp only [tNoPart]
    refine slA_any (seqT g6 hrS) fun q3 H7 e7 hq3 => ?_
    rw [show ((n : Int) + 1) = ((n + 1 : Nat) : Int) by omega, cut_from] at hq3
    refine catA_ok (seqT e7 hq2) hq3 (by rw [List.length_append, List.length_take, List.length_drop]; show _ + 1 + _ ≤ _; omega) fun q4 H8 e8 hq4 => ?_
    refine ⟨s5, fun p5 h5 => ⟨s1, fun l hl' => ?_⟩⟩
    have g8 := (g6.trans e7).trans e8
    obtain ⟨dr, hdr, nr, nor⟩ := bR
    have lnew : (((t.rows.map rowD).take n ++ [dr]) ++ (t.rows.map rowD).drop (n + 1)).length = us2.length := by
      rw [List.length_append, List.length_append, List.length_take, List.length_drop, List.length_map]
      show min n _ + 1 + _ = _
      omega
    have b5 := br g8 h5 (.tup hq4 (DpAll.append (DpAll.append (dpTake n (Dp.sameAll g8 hrA)) (.cons (Dp.same g8 hdr) .nil)) (dpDrop (n + 1) (Dp.sameAll g8 hrA))))
      (by show List.length _ ≤ 1000; rw [lnew]; omega) (by rw [noL]; exact noLs_app (noLs_app (noLs_take _ (noLs_map (f := rowD) (fun _ => rfl) _)) (by rw [noLs, nr]; rfl)) (noLs_drop _ (noLs_map (f := rowD) (fun _ => rfl) _)))
      (no_row (by rw [lnew, List.all_append, List.all_append, List.all_cons, hl2, ← hl, nor, Bool.false_and, Bool.and_false, Bool.false_and]))
    have e9 := same_new (o := .tup [.int (t.m : Int), .ref fa, .ref sa, .ref ba, .ref q4]) h5
    have e10 := same_new (o := .lst [.ref p5]) hl'
    refine ⟨l, 8, [.ref p5], rfl, rfl, upd_same, by decide, by decide, by show 1 * 8 ≤ sizeLine; decide, fun l2 hl2' => ?_⟩
    have e11 := same_new (o := .lst (List.replicate (8 : Int).toNat [V.ref p5]).flatten) hl2'
    have eA : Same H4 _ := (e5.trans ep).trans (e6.trans (e7.trans (e8.trans (e9.trans e10))))
    refine ⟨D, l2, xs, _, rfl, rfl, e11 _ _ (eA _ _ hD4), upd_same, (by rw [lx]; show 16 + 8 ≤ sizeLine; decide), fun D2 hD2 => ?_⟩
    obtain ⟨r1, r2, r3⟩ := odd_cat (K := K) e4 hD4 hx eA (zs := (List.replicate (8 : Int).toNat [V.ref p5]).flatten) (fun x hx => by
      have : x = .ref p5 := by
        obtain ⟨y, hy, hxy⟩ := List.mem_flatten.mp hx
        rw [(List.mem_replicate.mp hy).2] at hxy
        exact List.mem_singleton.mp hxy
      rw [this]
      exact b5.same e10) hl2' hD2
    have B9 := B3.keep r1
    refine ⟨b, D2, _, rfl, B9, (B3.keep ((e4.trans eA).trans e11)).ne hD2, SqL.of r2, (by rw [List.length_append, lx]; show 0 < 16 + 8; decide), (by rw [List.length_append, lx]; show 16 + 8 ≤ 1000; decide), fun j v' H' hv B' kp => ?_⟩
    exact k v' H' ((r3 v' (List.mem_of_getElem? hv)).sameT (B9.sameT kp)) B' (kk3.trans ((Kp.of r1).trans kp))

/-! ### _law_table -/
/-- some table -/
def sp__law_table (K : PySem.W.Frag) : Sp := fun vs H Q _ => ∃ (b : Addr) (n : Nat), vs = [.ref b, .int (n : Int)] ∧ Bag H b ∧ 0 < n ∧ n ≤ 500 ∧
  ∀ (v : V) (t : Tb) (H' : Hp), Dp K H' v (tabD t) → Tok t → t.rows.length ≤ n → Bag H' b → Kp b H H' → Q v H'
theorem Dp.ofBools {K : PySem.W.Frag} {H : Hp} {a : Addr} {l : List Bool} (h : SqT K H a (l.map V.bl)) : Dp K H (.ref a) (boolsD l) := by
  refine .tup h ?_
  clear h
  induction l with
  | nil => exact .nil
  | cons b l ih => exact .cons (.bl b) ih
theorem Dp.ofNats {K : PySem.W.Frag} {H : Hp} {a : Addr} {l : List Nat} (h : SqT K H a (l.map fun n : Nat => V.int (n : Int))) : Dp K H (.ref a) (natsD l) := by
  refine .tup h ?_
  clear h
  induction l with
  | nil => exact .nil
  | cons b l ih => exact .cons (.int _) ih
theorem one_of {j : Nat} {v : V} (h : ([.int 1, .int 2, .int 3, .int 6] : List V)[j]? = some v) : ∃ m : Nat, v = .int (m : Int) ∧ (m = 1 ∨ m = 2 ∨ m = 3 ∨ m = 6) := by
  match j, h with
  | 0, h => cases h; exact ⟨1, rfl, .inl rfl⟩
  | 1, h => cases h; exact ⟨2, rfl, .inr (.inl rfl)⟩
  | 2, h => cases h; exact ⟨3, rfl, .inr (.inr (.inl rfl))⟩
  | 3, h => cases h; exact ⟨6, rfl, .inr (.inr (.inr rfl))⟩
/-- the state within the first loop -/
def LT (K : PySem.W.Frag) (b : Addr) (n m c : Nat) (H0 : Hp) (ra : Addr) (i1 i2 i3 : Nat) : L2.St → Hp → Prop := fun σ H' => ∃ (fa sa ta : Addr) (lf ls : List Bool) (lt : List Nat) (kv : Option V),
  σ = [some (.ref b), some (.int (n : Int)), some (.int (m : Int)), some (.int (c : Int)), some (.ref fa), some (.ref sa), some (.ref ta), some (.ref ra), kv] ∧ SqT K H' fa (lf.map V.bl) ∧ lf.length = i1 ∧ SqT K H' sa (ls.map V.bl) ∧ ls.length = i2 ∧
  SqT K H' ta (lt.map fun n : Nat => V.int (n : Int)) ∧ lt.length = i3 ∧ (∀ s ∈ lt, s < c) ∧ SqT K H' ra [] ∧ Bag H' b ∧ Kp b H0 H'

theorem sc__law_table : FnScope ["bag", "top_z", "size", "many", "flats", "steeps", "starts", "rows", "k"] ["bag", "top_z"] (defScope s__law_table) := ⟨rfl, rfl, rfl, by decide +kernel, rfl, by decide +kernel, by decide +kernel⟩
theorem ok__law_table (E : En K mg) (G__law_pull : Good P w K mg base CX0 1 "_law_pull" ["bag", "amount"] (sp__law_pull K)) (G__law_of : Good P w K mg base CX0 2 "_law_of" ["bag", "things"] (sp__law_of K)) : Good P w K mg base CX0 3 "_law_table" ["bag", "top_z"] (sp__law_table K) := by
  obtain ⟨fd, F⟩ := E.says.def_ 18 (d := d__law_table) rfl
  refine ⟨fd, ?_, F.bindsN fun _ _ _ _ _ _ us hl => match us, hl with | [_, _], _ => rfl, F.kp, E.gl "_law_table"⟩
  refine F.ok sc__law_table (fun vs H Q E' h => ?_) (fun cdv A outer s H vs Q E' hr h => ?_)
  · obtain ⟨b, n, rfl, _⟩ := h; rfl
  · have hu64 := hu64_of hr
    refine ⟨_, PSs.nox (pss_cons (ps_par (i := 2) (j := 3) rfl sc__law_table.nd rfl rfl (by decide) rfl rfl (pa_cons (pe_G G__law_of (hr.mono (by decide)) rfl pass0 (pa_cons (pv 0) (pa_cons (pe_lst (pa_cons pe_int (pa_cons pe_int (pa_cons pe_int (pa_cons pe_int pa_nil))))) pa_nil))) (pa_cons (pe_op op_add pe_int (pe_G G__law_pull (hr.mono (by decide)) rfl pass0 (pa_cons (pv 0) (pa_cons (pv 1) pa_nil)))) pa_nil)) rfl)
      (pss_cons (ps_asg (pe_tup (pa_cons (pe_tup pa_nil) (pa_cons (pe_tup pa_nil) (pa_cons (pe_tup pa_nil) (pa_cons (pe_tup pa_nil) pa_nil))))) (pg_tup rfl (pgs_cons (pg_name (i := 4) sc__law_table.nd rfl (by first | exact Or.inl rfl | exact Or.inr rfl)) (pgs_cons (pg_name (i := 5) sc__law_table.nd rfl (by first | exact Or.inl rfl | exact Or.inr rfl)) (pgs_cons (pg_name (i := 6) sc__law_table.nd rfl (by first | exact Or.inl rfl | exact Or.inr rfl)) (pgs_cons (pg_name (i := 7) sc__law_table.nd rfl (by first | exact Or.inl rfl | exact Or.inr rfl)) pgs_nil))))))
      (pss_cons (ps_for PassesOwn.never rfl (pi_range1 rfl (E.fr "range") (pa_cons (pv 2) pa_nil)) (pg_name (i := 8) sc__law_table.nd rfl (by first | exact Or.inl rfl | exact Or.inr rfl))
        (C8.pss_cut (ps_set (i := 4) sc__law_table.nd rfl (by first | exact Or.inl rfl | exact Or.inr rfl) (pe_op op_catA (pv 4) (pe_tup (pa_cons (pe_cmpR op_eq (pe_G G__law_pull (hr.mono (by decide)) rfl pass0 (pa_cons (pv 0) (pa_cons pe_int pa_nil))) pe_int (nomark _)) pa_nil))))
      (C8.pss_cut (ps_set (i := 5) sc__law_table.nd rfl (by first | exact Or.inl rfl | exact Or.inr rfl) (pe_op op_catA (pv 5) (pe_tup (pa_cons (pe_cmpR op_eq (pe_G G__law_pull (hr.mono (by decide)) rfl pass0 (pa_cons (pv 0) (pa_cons pe_int pa_nil))) pe_int (nomark _)) pa_nil))))
      (pss_one (ps_set (i := 6) sc__law_table.nd rfl (by first | exact Or.inl rfl | exact Or.inr rfl) (pe_op op_catA (pv 6) (pe_tup (pa_cons (pe_G G__law_pull (hr.mono (by decide)) rfl pass0 (pa_cons (pv 0) (pa_cons (pv 3) pa_nil))) pa_nil))))))))
      (pss_cons (ps_for PassesOwn.never rfl (pi_range1 rfl (E.fr "range") (pa_cons (pv 3) pa_nil)) (pg_name (i := 8) sc__law_table.nd rfl (by first | exact Or.inl rfl | exact Or.inr rfl))
        (pss_one (ps_set (i := 7) sc__law_table.nd rfl (by first | exact Or.inl rfl | exact Or.inr rfl) (pe_op op_catA (pv 7) (pe_tup (pa_cons (pe_tup (pa_cons (pe_G G__law_pull (hr.mono (by decide)) rfl pass0 (pa_cons (pv 0) (pa_cons (pv 3) pa_nil))) (pa_cons (pe_G G__law_pull (hr.mono (by decide)) rfl pass0 (pa_cons (pv 0) (pa_cons (pv 3) pa_nil))) (pa_cons (pe_cmpR op_eq (pe_G G__law_pull (hr.mono (by decide)) rfl pass0 (pa_cons (pv 0) (pa_cons pe_int pa_nil))) pe_int (nomark _)) pa_nil)))) pa_nil))))))
      (pss_one (ps_ret (pe_tup (pa_cons (pv 2) (pa_cons (pv 4) (pa_cons (pv 5) (pa_cons (pv 6) (pa_cons (pv 7) pa_nil)))))))))))), ?_⟩
    obtain ⟨b, n, rfl, B, n0, n1, k⟩ := h
    have s0 : 0 ≤ sizeLine := by decide
    have s1 : 1 ≤ sizeLine := by decide
    have s3 : 3 ≤ sizeLine := by decide
    have s4 : 4 ≤ sizeLine := by decide
    have s5 : 5 ≤ sizeLine := by decide
    -- size, many
    refine ⟨_, rfl, s4, fun l hl => ?_⟩
    refine ⟨b, l, _, rfl, B.keep (same_new hl), B.ne hl, SqL.of upd_same, (by show 0 < 4; decide), (by show 4 ≤ 1000; decide), fun j v H1 hv B1 k1 => ?_⟩
    obtain ⟨m, rfl, hm⟩ := one_of hv
    have kk1 : Kp b H H1 := (Kp.of (same_new hl)).trans k1
    refine ⟨_, rfl, _, rfl, b, n, rfl, B1, (by omega), (by omega), fun r H2 r0 r1 B2 k2 => ⟨_, _, rfl, rfl, _, _, rfl, ?_⟩⟩
    have kk2 := kk1.trans k2
    obtain ⟨c, hc, c0, c1, cn⟩ : ∃ c : Nat, (1 : Int) + r = (c : Int) ∧ 0 < c ∧ c ≤ 500 ∧ c ≤ n := ⟨(1 + r).toNat, by omega, by omega, by omega, by omega⟩
    -- flats, steeps, starts, rows = (), (), (), ()
    refine ⟨s0, fun t1 h1 => ⟨s0, fun t2 h2 => ⟨s0, fun t3 h3 => ⟨s0, fun t4 h4 => ⟨s4, fun t5 h5 => ?_⟩⟩⟩⟩⟩
    have f5 := same_new (o := .tup [.ref t1, .ref t2, .ref t3, .ref t4]) h5
    have f4 := (same_new (o := .tup []) h4).trans f5
    have f3 := (same_new (o := .tup []) h3).trans f4
    have f2 := (same_new (o := .tup []) h2).trans f3
    have f1 := (same_new (o := .tup []) h1).trans f2
    refine ⟨t5, _, rfl, SqT.of upd_same, rfl, _, _, rfl, _, _, rfl, _, _, rfl, _, _, rfl, rfl, ?_⟩
    have m6 : m ≤ 6 := by omega
    dsimp only
    rw [hc]
    -- for k in range(size)
    refine ⟨_, rfl, _, rfl, (by omega), (by omega), ?_⟩
    refine for_range (lo := 0) (n := m) (fun i σ H' => LT K b n m c H t4 i i i σ H') ⟨t1, t2, t3, [], [], [], _, rfl, seqT f2 (SqT.of upd_same), rfl, seqT f3 (SqT.of upd_same), rfl, seqT f4 (SqT.of upd_same), rfl, (fun s hs => by cases hs), seqT f5 (SqT.of upd_same), B2.keep f1, kk2.trans (Kp.of f1)⟩ ?_ ?_
    · rintro i σ H5 hi ⟨fa, sa, ta, lf, ls, lt, kv, rfl, hf, hfl, hs, hsl, ht, htl, hlt, hr, B5, kk5⟩
      refine ⟨LT K b n m c H t4 (i + 1) i i, ?_, ?_⟩
      · refine ⟨_, rfl, _, rfl, b, _, rfl, B5, by decide, by decide, fun r H6 _ _ B6 k6 => ⟨rfl, s1, fun p hp => ?_⟩⟩
        have st := B5.sameT k6
        have fin : ∀ c' H', Same (upd H6 p (.tup [.bl (decide (V.int r = V.int 0))])) H' → SqT K H' c' (lf.map V.bl ++ [.bl (decide (V.int r = V.int 0))]) → LT K b n m c H t4 (i + 1) i i [some (.ref b), some (.int (n : Int)), some (.int (m : Int)), some (.int (c : Int)), some (.ref c'), some (.ref sa), some (.ref ta), some (.ref t4), some (.int (0 + (i : Int)))] H' := fun c' H' e h => by
          have e' := (same_new (o := .tup [.bl (decide (V.int r = V.int 0))]) hp).trans e
          exact ⟨c', sa, ta, lf ++ [decide (V.int r = V.int 0)], ls, lt, _, rfl, by rw [List.map_append]; exact h, by rw [List.length_append, hfl]; rfl, seqT e' (st.seqT hs), hsl, seqT e' (st.seqT ht), htl, hlt, seqT e' (st.seqT hr), B6.keep e', (kk5.trans k6).trans (Kp.of e')⟩
        refine ⟨fa, p, _, _, rfl, rfl, seqT (same_new hp) (st.seqT hf), SqT.of upd_same, sz (by rw [List.length_map]; show lf.length + 1 ≤ _; omega), ?_⟩
        exact ⟨fun e0 => fin p _ (Same.refl _) (by rw [e0]; exact SqT.of upd_same), fun _ z => (by cases z), fun _ _ c' hc' => fin c' _ (same_new hc') (SqT.of upd_same)⟩
      rintro σ H5 ⟨fa, sa, ta, lf, ls, lt, kv, rfl, hf, hfl, hs, hsl, ht, htl, hlt, hr, B5, kk5⟩
      refine ⟨LT K b n m c H t4 (i + 1) (i + 1) i, ?_, ?_⟩
      · refine ⟨_, rfl, _, rfl, b, _, rfl, B5, by decide, by decide, fun r H6 _ _ B6 k6 => ⟨rfl, s1, fun p hp => ?_⟩⟩
        have st := B5.sameT k6
        have fin : ∀ c' H', Same (upd H6 p (.tup [.bl (decide (V.int r = V.int 0))])) H' → SqT K H' c' (ls.map V.bl ++ [.bl (decide (V.int r = V.int 0))]) → LT K b n m c H t4 (i + 1) (i + 1) i [some (.ref b), some (.int (n : Int)), some (.int (m : Int)), some (.int (c : Int)), some (.ref fa), some (.ref c'), some (.ref ta), some (.ref t4), kv] H' := fun c' H' e h => by
          have e' := (same_new (o := .tup [.bl (decide (V.int r = V.int 0))]) hp).trans e
          exact ⟨fa, c', ta, lf, ls ++ [decide (V.int r = V.int 0)], lt, _, rfl, seqT e' (st.seqT hf), hfl, by rw [List.map_append]; exact h, by rw [List.length_append, hsl]; rfl, seqT e' (st.seqT ht), htl, hlt, seqT e' (st.seqT hr), B6.keep e', (kk5.trans k6).trans (Kp.of e')⟩
        refine ⟨sa, p, _, _, rfl, rfl, seqT (same_new hp) (st.seqT hs), SqT.of upd_same, sz (by rw [List.length_map]; show ls.length + 1 ≤ _; omega), ?_⟩
        exact ⟨fun e0 => fin p _ (Same.refl _) (by rw [e0]; exact SqT.of upd_same), fun _ z => (by cases z), fun _ _ c' hc' => fin c' _ (same_new hc') (SqT.of upd_same)⟩
      rintro σ H5 ⟨fa, sa, ta, lf, ls, lt, kv, rfl, hf, hfl, hs, hsl, ht, htl, hlt, hr, B5, kk5⟩
      refine ⟨_, rfl, _, rfl, _, rfl, b, _, rfl, B5, (by omega), (by omega), fun r H6 r0 r1 B6 k6 => ⟨s1, fun p hp => ?_⟩⟩
      have st := B5.sameT k6
      have er : r = ((r.toNat : Nat) : Int) := by omega
      have fin : ∀ c' H', Same (upd H6 p (.tup [.int r])) H' → SqT K H' c' ((lt.map fun n : Nat => V.int (n : Int)) ++ [.int r]) → LT K b n m c H t4 (i + 1) (i + 1) (i + 1) [some (.ref b), some (.int (n : Int)), some (.int (m : Int)), some (.int (c : Int)), some (.ref fa), some (.ref sa), some (.ref c'), some (.ref t4), kv] H' := fun c' H' e h => by
        have e' := (same_new (o := .tup [.int r]) hp).trans e
        refine ⟨fa, sa, c', lf, ls, lt ++ [r.toNat], _, rfl, seqT e' (st.seqT hf), hfl, seqT e' (st.seqT hs), hsl, ?_, by rw [List.length_append, htl]; rfl, fun s hs => ?_, seqT e' (st.seqT hr), B6.keep e', (kk5.trans k6).trans (Kp.of e')⟩
        · rw [List.map_append]
          show SqT K H' c' (_ ++ [V.int ((r.toNat : Nat) : Int)])
          rw [← er]
          exact h
        · rcases List.mem_append.mp hs with z | z
          · exact hlt s z
          · rw [List.mem_singleton] at z
            omega
      refine ⟨ta, p, _, _, rfl, rfl, seqT (same_new hp) (st.seqT ht), SqT.of upd_same, sz (by rw [List.length_map]; show lt.length + 1 ≤ _; omega), ?_⟩
      exact ⟨fun e0 => fin p _ (Same.refl _) (by rw [e0]; exact SqT.of upd_same), fun _ z => (by cases z), fun _ _ c' hc' => fin c' _ (same_new hc') (SqT.of upd_same)⟩
    rintro σ H5 ⟨fa, sa, ta, lf, ls, lt, kv, rfl, hf, hfl, hs, hsl, ht, htl, hlt, hr, B5, kk5⟩
    -- for k in range(many)
    refine ⟨_, rfl, _, rfl, (by omega), (by omega), ?_⟩
    refine for_range (lo := 0) (n := c) (fun i σ H' => ∃ (ra : Addr) (lr : List (Nat × Nat × Bool)) (us : List V) (kv : Option V), σ = [some (.ref b), some (.int (n : Int)), some (.int (m : Int)), some (.int (c : Int)), some (.ref fa), some (.ref sa), some (.ref ta), some (.ref ra), kv] ∧ SqT K H' ra us ∧ DpAll K H' us (lr.map rowD) ∧ lr.length = i ∧ (∀ r ∈ lr, r.1 < c ∧ r.2.1 < c) ∧ SameT H5 H' ∧ Bag H' b ∧ Kp b H H')
      ⟨t4, [], [], _, rfl, hr, .nil, rfl, (fun r hr => by cases hr), SameT.refl _, B5, kk5⟩ ?_ ?_
    · rintro i σ H6 hi ⟨ra, lr, us, kv, rfl, hra, hdr, hlr, hb, e6, B6, kk6⟩
      have lus := DpAll.length hdr
      rw [List.length_map] at lus
      refine ⟨_, rfl, _, rfl, _, rfl, b, _, rfl, B6, (by omega), (by omega), fun x H7 x0 x1 B7 k7 => ?_⟩
      refine ⟨_, rfl, _, rfl, b, _, rfl, B7, (by omega), (by omega), fun y H8 y0 y1 B8 k8 => ?_⟩
      refine ⟨_, rfl, b, _, rfl, B8, by decide, by decide, fun g H9 _ _ B9 k9 => ⟨rfl, s3, fun q hq => ⟨s1, fun p hp => ?_⟩⟩⟩
      have st := (B6.sameT k7).trans ((B7.sameT k8).trans (B8.sameT k9))
      have eq1 := same_new (o := .tup [.int x, .int y, .bl (decide (V.int g = V.int 0))]) hq
      have ep1 := same_new (o := .tup [.ref q]) hp
      have st2 := st.trans (SameT.of (eq1.trans ep1))
      have kk9 := kk6.trans (k7.trans (k8.trans k9))
      have fin : ∀ c' H', Same (upd (upd H9 q (.tup [.int x, .int y, .bl (decide (V.int g = V.int 0))])) p (.tup [.ref q])) H' → SqT K H' c' (us ++ [.ref q]) → ∃ (ra : Addr) (lr : List (Nat × Nat × Bool)) (us : List V) (kv' : Option V), [some (V.ref b), some (.int (n : Int)), some (.int (m : Int)), some (.int (c : Int)), some (.ref fa), some (.ref sa), some (.ref ta), some (.ref c'), some (.int (0 + (i : Int)))] = [some (.ref b), some (.int (n : Int)), some (.int (m : Int)), some (.int (c : Int)), some (.ref fa), some (.ref sa), some (.ref ta), some (.ref ra), kv'] ∧ SqT K H' ra us ∧ DpAll K H' us (lr.map rowD) ∧ lr.length = i + 1 ∧ (∀ r ∈ lr, r.1 < c ∧ r.2.1 < c) ∧ SameT H5 H' ∧ Bag H' b ∧ Kp b H H' := fun c' H' e h => by
        have e' := eq1.trans (ep1.trans e)
        refine ⟨c', lr ++ [(x.toNat, y.toNat, decide (V.int g = V.int 0))], us ++ [.ref q], _, rfl, h, ?_, by rw [List.length_append, hlr]; rfl, fun r hr => ?_, e6.trans (st2.trans (.of e)), B9.keep e', kk9.trans (Kp.of e')⟩
        · rw [List.map_append]
          refine DpAll.append (Dp.sameTs (st2.trans (.of e)) (noLs_map (f := rowD) (fun _ => rfl) lr) hdr) (DpAll.one ?_)
          have hS : SqT K H' q [.int x, .int y, .bl (decide (V.int g = V.int 0))] := seqT (ep1.trans e) (SqT.of upd_same)
          have ex : x = ((x.toNat : Nat) : Int) := by omega
          have ey : y = ((y.toNat : Nat) : Int) := by omega
          rw [ex, ey] at hS
          exact .tup hS (.cons (.int _) (.cons (.int _) (.cons (.bl _) .nil)))
        · rcases List.mem_append.mp hr with z | z
          · exact hb r z
          · rw [List.mem_singleton] at z
            rw [z]
            exact ⟨by show x.toNat < c; omega, by show y.toNat < c; omega⟩
      refine ⟨ra, p, _, _, rfl, rfl, st2.seqT hra, SqT.of upd_same, sz (by show us.length + 1 ≤ _; omega), ?_⟩
      exact ⟨fun e0 => fin p _ (Same.refl _) (by rw [e0]; exact SqT.of upd_same), fun _ z => (by cases z), fun _ _ c' hc' => fin c' _ (same_new hc') (SqT.of upd_same)⟩
    · rintro σ H6 ⟨ra, lr, us, kv, rfl, hra, hdr, hlr, hb, e6, B6, kk6⟩
      refine ⟨_, rfl, _, rfl, _, rfl, _, rfl, _, rfl, s5, fun t ht6 => ?_⟩
      have en := same_new (o := .tup [.int (m : Int), .ref fa, .ref sa, .ref ta, .ref ra]) ht6
      refine k _ ⟨m, lf, ls, lt, lr⟩ _ (.tup (SqT.of upd_same) (.cons (.int _) (.cons (Dp.ofBools (seqT en (e6.seqT hf))) (.cons (Dp.ofBools (seqT en (e6.seqT hs))) (.cons (Dp.ofNats (seqT en (e6.seqT ht))) (.cons (.tup (seqT en hra) (Dp.sameAll en hdr)) .nil)))))) ⟨hm, hfl, hsl, htl, by show 0 < lr.length; omega, by show lr.length ≤ 1000; omega, fun s hs' => by show s < lr.length; have := hlt s hs'; omega, fun r hr' => by show r.1 < lr.length; have := hb r hr'; omega, fun r hr' => by show r.2.1 < lr.length; have := hb r hr'; omega⟩ (by show lr.length ≤ n; omega) (B6.keep en) (kk6.trans (Kp.of en))

/-! ### _law_bag -/
/-- a new bag -/
def sp__law_bag (K : PySem.W.Frag) : Sp := fun vs H Q _ => ∃ (a : Addr) (ns : List Int), vs = [.ref a] ∧ SqL K H a (ns.map V.int) ∧ ns.length ≤ 63 ∧ ∀ (b : Addr) (H' : Hp), H b = none → Bag H' b → Same H H' → Q (.ref b) H'

theorem sc__law_bag : FnScope ["script", "salt", "cell"] ["script"] (defScope s__law_bag) := ⟨rfl, rfl, rfl, by decide +kernel, rfl, by decide +kernel, by decide +kernel⟩
theorem ok__law_bag (E : En K mg) : Good P w K mg base CX0 1 "_law_bag" ["script"] (sp__law_bag K) := by
  obtain ⟨fd, F⟩ := E.says.def_ 19 (d := d__law_bag) rfl
  refine ⟨fd, ?_, F.bindsN fun _ _ _ _ _ _ us hl => match us, hl with | [_], _ => rfl, F.kp, E.gl "_law_bag"⟩
  refine F.ok sc__law_bag (fun vs H Q E' h => ?_) (fun cdv A outer s H vs Q E' hr h => ?_)
  · obtain ⟨a, ns, rfl, _⟩ := h; rfl
  · have hu64 := hu64_of hr
    refine ⟨_, PSs.nox (pss_cons (ps_set (i := 1) sc__law_bag.nd rfl (by first | exact Or.inl rfl | exact Or.inr rfl) pe_int)
      (pss_cons (ps_for PassesOwn.never rfl (pi_list (pe_slice sl_list (pv 0) po_none (po_some pe_int))) (pg_name (i := 2) sc__law_bag.nd rfl (by first | exact Or.inl rfl | exact Or.inr rfl))
        (pss_one (ps_set (i := 1) sc__law_bag.nd rfl (by first | exact Or.inl rfl | exact Or.inr rfl) (pe_op op_mod (pe_callTy call_int1 (by rfl) (E.fr "int") (by decide +kernel) (pa_cons (pe_op op_add (pe_op op_add (pe_op op_mul (pv 1) pe_int) (pe_op op_mod (pe_callTy call_int1 (by rfl) (E.fr "int") (by decide +kernel) (pa_cons (pv 2) pa_nil)) pe_int)) pe_int) pa_nil)) pe_int))))
      (pss_one (ps_ret (pe_lst (pa_cons (pe_callTy call_list_of (by rfl) (E.fr "list") (by decide +kernel) (pa_cons (pe_slice sl_list (pv 0) po_none (po_some pe_int)) pa_nil)) (pa_cons pe_int (pa_cons pe_int (pa_cons (pv 1) pa_nil))))))))), ?_⟩
    obtain ⟨a, ns, rfl, hS, hl, k⟩ := h
    have hl' : (ns.map V.int).length ≤ 63 := by rw [List.length_map]; exact hl
    refine ⟨_, rfl, 63, rfl, a, _, rfl, hS, fun p hp => ?_⟩
    rw [cut63 hl']
    refine ⟨p, rfl, ⟨_, SqL.of upd_same⟩, for_list (K := K) (a := p) (xs := ns.map V.int) (fun i σ H' => ∃ (s : Int) (v : Option V), σ = [some (.ref a), some (.int s), v] ∧ 0 ≤ s ∧ s < 2147483647 ∧ Same (upd H p (.lst (ns.map V.int))) H')
      ⟨3828, none, rfl, by decide, by decide, Same.refl _⟩ (fun i σ H' _ ⟨_, _, _, _, _, e⟩ => SqL.of (e _ _ upd_same)) ?_ ?_⟩
    · rintro i x σ H' hx ⟨s, v, rfl, h0, h1, e⟩
      obtain ⟨z, rfl⟩ : ∃ z, x = V.int z := by
        rw [List.getElem?_map] at hx
        cases q : ns[i]? with
        | none => rw [q] at hx; cases hx
        | some z => rw [q] at hx; exact ⟨z, (Option.some.inj hx).symm⟩
      refine ⟨_, rfl, _, _, rfl, rfl, .inr ⟨by decide, by decide⟩, _, rfl, .inl ⟨_, rfl, _, _, rfl, rfl, (by show (0 : Int) < _; decide), _, _, rfl, rfl, _, _, rfl, rfl, .inl ⟨_, rfl, _, _, rfl, rfl, (by show (0 : Int) < _; decide), ?_⟩⟩⟩
      have q := emod_bd (s * 45053 + z % 2147483563 + 23) (m := 2147483647) (by decide)
      exact ⟨_, some (.int z), rfl, q.1, q.2, e⟩
    · rintro σ H' ⟨s, v, rfl, h0, h1, e⟩
      have e1 : Same H H' := fun b o q => e b o (by rw [upd_ne (ne_of_none q hp)]; exact q)
      refine ⟨_, rfl, 63, rfl, a, _, rfl, e1.seq hS, fun p2 hp2 => ?_⟩
      rw [cut63 hl']
      refine ⟨p2, _, rfl, .inl (SqL.of upd_same), fun p3 hp3 => ?_⟩
      refine ⟨_, rfl, (by show 4 ≤ sizeLine; decide), fun b hb => ?_⟩
      have n32 : p3 ≠ p2 := fun z => by rw [z, upd_same] at hp3; cases hp3
      have nb3 : b ≠ p3 := fun z => by rw [z, upd_same] at hb; cases hb
      have hp3' : H' p3 = none := by rw [upd_ne n32] at hp3; exact hp3
      have hb2 : (upd H' p2 (.lst (ns.map V.int))) b = none := by rw [upd_ne nb3] at hb; exact hb
      have e2 : Same H' (upd (upd (upd H' p2 (.lst (ns.map V.int))) p3 (.lst (ns.map V.int))) b (.lst [.ref p3, .int 0, .int 0, .int s])) :=
        (same_new hp2).trans ((same_new hp3).trans (same_new hb))
      refine k b _ ?_ ⟨p3, ns, 0, 0, s, upd_same, ?_, nb3, hl, by decide, by decide, h0, h1⟩ (e1.trans e2)
      · have z : H' b = none := Same.free (same_new hp2) hb2
        exact Same.free e1 z
      · rw [upd_ne nb3.symm, upd_same]

/-! ### law -/
def sp_law (K : PySem.W.Frag) : Sp := fun vs H Q _ => ∃ (a : Addr) (ns : List Int), vs = [.ref a] ∧ H (He.cT K ("law", none)).2 = some (.tbl #[]) ∧ SqL K H a (ns.map V.int) ∧ ns.length ≤ 63 ∧ ∀ H', Q (.bl true) H'
theorem sp_law_holds {K : PySem.W.Frag} (H : Hp) (a : Addr) (ns : List Int) (hl : ns.length ≤ 63) (hT : H (He.cT K ("law", none)).2 = some (.tbl #[])) (hS : SqL K H a (ns.map V.int)) : sp_law K [.ref a] H (fun v _ => v = .bl true) fun _ _ _ => False := ⟨a, ns, rfl, hT, hS, hl, fun _ => rfl⟩
theorem lk5_4 (a b c d e : V) : atI [a, b, c, d, e] 4 = some e := rfl
theorem leastF_len {t : Tb} {f : Nat → Nat} {s : Nat} (ok : Tok t) (hf : Cls t f) : (leastF t f s).rows.length ≤ t.rows.length := by
  have h := (ordF_l (f := f) (s := s) ok).len hf
  show ((ordF t f s).map _).length ≤ _
  rw [List.length_map]
  exact h

theorem sc_law : FnScope ["script", "bag", "turn", "table", "bad"] ["script"] (defScope s_law) := ⟨rfl, rfl, rfl, by decide +kernel, rfl, by decide +kernel, by decide +kernel⟩
theorem ok_law {fd : FuncData} (F : FunD K "law" "law" (defArgs s_law) (defBody s_law) (defScope s_law) [] [] (He.ga K "law") fd) (E : En K mg) (TB : LamX.TabB base mg (He.cT K ("law", none)).1 (He.cT K ("law", none)).2) (G_PairSet___len__ : GoodM P w K mg base CX0 1 (He.ma K (He.ga K "PairSet") "__len__") ["self"] (sp_PairSet___len__ K)) (G__law_field : GoodA P w K mg base 1 "_law_field" ["e"] (sp_field K)) (G__law_try : GoodT P w K mg base 9 (He.ga K "PathError")) (G__law_set : Good P w K mg base (L2.CX P w) 7 "_law_set" ["table"] (sp__law_set K)) (G__law_spoilt : Good P w K mg base CX0 3 "_law_spoilt" ["bag", "table"] (sp__law_spoilt K)) (G__law_table : Good P w K mg base CX0 3 "_law_table" ["bag", "top_z"] (sp__law_table K)) (G__law_bag : Good P w K mg base CX0 1 "_law_bag" ["script"] (sp__law_bag K)) : FnOk P w K mg base CX0 11 (He.ga K "law") fd ["script"] (sp_law K) := by
  refine F.okC sc_law (fun vs H Q E' h => ?_) (fun A outer s H vs Q E' hr h => ?_)
  · obtain ⟨a, ns, rfl, _⟩ := h; rfl
  · have hu64 := hu64_of hr
    refine ⟨_, PSs.nox (pss_cons (ps_set (i := 1) sc_law.nd rfl (by first | exact Or.inl rfl | exact Or.inr rfl) (pe_G G__law_bag (hr.mono (by decide)) rfl pass0 (pa_cons (pv 0) pa_nil)))
      (pss_cons (ps_for PassesOwn.never rfl (pi_range1 rfl (E.fr "range") (pa_cons pe_int pa_nil)) (pg_name (i := 2) sc_law.nd rfl (by first | exact Or.inl rfl | exact Or.inr rfl))
        (pss_cons (ps_set (i := 3) sc_law.nd rfl (by first | exact Or.inl rfl | exact Or.inr rfl) (pe_G G__law_table (hr.mono (by decide)) rfl pass0 (pa_cons (pv 1) (pa_cons pe_int pa_nil))))
      (pss_cons (ps_set (i := 4) sc_law.nd rfl (by first | exact Or.inl rfl | exact Or.inr rfl) (pe_G G__law_spoilt (hr.mono (by decide)) rfl pass0 (pa_cons (pv 1) (pa_cons (pv 3) pa_nil))))
      (pss_cons (ps_if (pt_cmpR (op_neD hu64) (pe_T G__law_try rfl TB rfl (hr.mono (by decide)) (j := 8) (by decide) (LamX.lamS_by (sc := defScope s_law) (by decide +kernel)) (by rfl) (fun _ _ _ _ _ => rfl) (fun A2 outer2 s2 H2 E2 f2 c2 hr2 => (pe_callB (cr_lenI (En.meth_PairSet___len__ E) (GoodM.raw G_PairSet___len__) (hr2.mono (by decide)) pass0) (by rfl) (E.fr "len") (by decide +kernel) (pa_cons (pe_G G__law_set (hr2.mono (by decide)) rfl (passes_call (E := E2) (takes_of (E := E2) rfl rfl rfl rfl) fun _ _ _ _ h => h) (pa_cons (pv 4) pa_nil)) pa_nil)))) (pe_tup (pa_cons pe_str (pa_cons pe_non pa_nil))) (nomark _))
        (pss_one (ps_ret pe_bl))
        pss_nil)
      (pss_one (ps_if (pt_not (pt_chain op_le op_le pe_int (pe_callB (cr_lenI (En.meth_PairSet___len__ E) (GoodM.raw G_PairSet___len__) (hr.mono (by decide)) pass0) (by rfl) (E.fr "len") (by decide +kernel) (pa_cons (pe_G G__law_set (hr.mono (by decide)) rfl passF (pa_cons (pv 3) pa_nil)) pa_nil)) (pe_callB call_len_seq (by rfl) (E.fr "len") (by decide +kernel) (pa_cons (pe_ix ix_tup (pv 3) pe_int (fun _ _ => rfl)) pa_nil))))
        (pss_one (ps_ret pe_bl))
        pss_nil))))))
      (pss_one (ps_ret (pe_cmpR (op_eqD hu64) (ClX.pe_cval (pe_glob rfl (E.gl "PairSet") (show RelV (V.ref (He.ga K "PairSet")) _ from rfl))) (pe_tup (pa_cons pe_int (pa_cons pe_int (pa_cons pe_int (pa_cons pe_int pa_nil))))) (nomark _)))))), ?_⟩
    obtain ⟨a, ns, rfl, hT, hS, hl, k⟩ := h
    have s2 : 2 ≤ sizeLine := by decide
    refine ⟨_, rfl, a, ns, rfl, hS, hl, fun b H1 hb B e1 => ?_⟩
    -- for turn in range(10)
    refine ⟨10, rfl, by decide, by decide, for_range (lo := 0) (n := 10) (fun _ σ H' => ∃ s2 s3 s4 : Option V, σ = [some (.ref a), some (.ref b), s2, s3, s4] ∧ Bag H' b ∧ LamX.Tabs [((He.cT K ("law", none)).2, (("law" : Str) ++ ".<locals>.") ++ "<lambda>")] H') ⟨_, _, _, rfl, B, tabs_one (e1 _ _ hT)⟩ ?_ ?_⟩
    rotate_left
    · rintro σ H2 ⟨_, _, _, rfl, B2, T2⟩
      -- PairSet.MODULI == (1, 2, 3, 6)
      obtain ⟨p, cv, hp⟩ := En.cval_PairSet_MODULI E
      refine ⟨He.ga K "PairSet", _, .ref p, .ref p, rfl, En.cread_PairSet E, cv, by show 4 ≤ sizeLine; decide, fun q hq => ?_⟩
      refine ⟨.tuple [.int 1, .int 2, .int 3, .int 6], .tuple [.int 1, .int 2, .int 3, .int 6], .tup (hp _) (.cons (.int _) (.cons (.int _) (.cons (.int _) (.cons (.int _) .nil)))), .tup (SqT.of upd_same) (.cons (.int _) (.cons (.int _) (.cons (.int _) (.cons (.int _) .nil)))), by rfl, by rfl, ?_⟩
      exact k _
    rintro i σ H2 _ ⟨_, _, _, rfl, B2, T2⟩
    -- table, bad
    refine ⟨_, rfl, b, 6, rfl, B2, by decide, by decide, fun v t H3 hD ok lt B3 k3 => ?_⟩
    refine ⟨_, rfl, _, rfl, b, v, t, rfl, B3, hD, ok, by omega, fun v' H4 hB B4 k4 => ?_⟩
    have T4 := tabs_sameT ((B2.sameT k3).trans (B3.sameT k4)) T2
    have hD4 := Dp.sameT (B3.sameT k4) (noL_tab t) hD
    obtain ⟨dm, df, ds, db, dr, hb4, lr, lb, nL, no⟩ := hB
    -- _law_try(lambda: len(_law_set(bad)))
    refine ⟨T4, fun H5 e5 T5 => ?_⟩
    have hb5 := Dp.extN e5 nL hb4
    have hD5 := Dp.extN e5 (noL_tab t) hD4
    have B5 := B4.extN e5
    refine ⟨_, rfl, v', dm, df, ds, db, dr, rfl, hb5, lr, lb, .inr ⟨no, fun H6 d e6 hd => ?_⟩⟩
    have ed := same_new (o := .xd [("tag", .str "InvalidTable")]) hd
    refine ⟨He.ga K "InvalidTable", d, [("tag", .str "InvalidTable")], "InvalidTable", .non, rfl, rfl, En.exm_InvalidTable_PathError E, upd_same, En.xf_InvalidTable E, En.xno_InvalidTable_tag E, rfl, ?_, fun H7 e7 p hp => ?_⟩
    · unfold FldOk
      rw [show fldOf "InvalidTable" = none by decide +kernel]
    have ep := same_new (o := .tup [.str "InvalidTable", .non]) hp
    refine ⟨s2, fun p2 hp2 => ?_⟩
    have ep2 := same_new (o := .tup [.str "InvalidTable", .non]) hp2
    refine ⟨.tuple [.str "InvalidTable", .none], .tuple [.str "InvalidTable", .none], .tup (seqT ep2 (SqT.of upd_same)) (.cons (.str _) (.cons .non .nil)), .tup (SqT.of upd_same) (.cons (.str _) (.cons .non .nil)), by decide +kernel, by decide +kernel, _, rfl, ?_⟩
    refine ite_f (by decide +kernel) ?_
    have e8 : Same H5 _ := e6.trans (ed.trans (e7.trans (ep.trans ep2)))
    have hD8 := Dp.same e8 hD5
    have B8 := B5.keep e8
    have T8 := LamX.Tabs.ext T5 e8
    -- if not 1 <= len(_law_set(table)) <= len(table[4])
    have lrr : lenD (rowsD t.rows) ≤ 1000 := by show (t.rows.map rowD).length ≤ 1000; rw [List.length_map]; omega
    have lbb : lenD (natsD t.starts) ≤ 1000 := by
      have := ok.m0
      show (t.starts.map _).length ≤ 1000
      rw [List.length_map, ok.tl]; omega
    refine ⟨_, rfl, v, .int (t.m : Int), boolsD t.flats, boolsD t.steeps, natsD t.starts, rowsD t.rows, rfl, hD8, lrr, lbb, .inl ⟨t, ok, rfl, rfl, rfl, rfl, rfl, fun fn z c H9 cl sz e9 hc => ?_⟩⟩
    have lo := leastF_ok ok cl sz
    have lr9 := leastF_len ok cl (s := z)
    have hi : InsAt (He.ga K "PairSet") H9 c := by
      obtain ⟨dx, p, h1, _⟩ := hc.ex
      exact ⟨dx, _, h1⟩
    refine ⟨c, rfl, hi, c, leastF t fn z, rfl, hc, _, rfl, by omega, ?_⟩
    refine ⟨_, _, rfl, rfl, _, rfl, ?_⟩
    have r0 := lo.r0
    refine ite_t (decide_eq_true (by omega)) ?_
    have hD9 := Dp.same e9 hD8
    obtain ⟨ta, f, st, bg, r, rfl, T9⟩ := Dp.tab hD9
    obtain ⟨ra, us, rfl, hR, hlr, _⟩ := Dp.rows T9.rd
    refine ⟨_, rfl, ta, _, _, _, rfl, rfl, T9.sq, lk5_4 _ _ _ _ _, ra, us, rfl, .inr hR, ?_⟩
    refine ⟨_, _, rfl, rfl, _, rfl, ?_⟩
    refine ite_f (by show (!decide _) = false; rw [decide_eq_true (by omega)]; rfl) ?_
    exact ⟨_, _, _, rfl, B8.keep e9, LamX.Tabs.ext T8 e9⟩

end
theorem all (P : Program) (w : World) (base : Heap) {K : PySem.W.Frag} {mg : Str → Option Value} {fd : FuncData} (E : En K mg) (MP : MainP P "/claim/cut.py") (SS : SaysS fns K) (TB : LamX.TabB base mg (He.cT K ("law", none)).1 (He.cT K ("law", none)).2) (F : FunD K "law" "law" (defArgs s_law) (defBody s_law) (defScope s_law) [] [] (He.ga K "law") fd) :
    FnOk P w K mg base CX0 11 (He.ga K "law") fd ["script"] (sp_law K) := by
  have X_InvalidTable := okx_InvalidTable (P := P) (w := w) (base := base) E MP SS
  have G_PairSet___len__ := ok_PairSet___len__ (P := P) (w := w) (base := base) E
  have G__law_field := ok__law_field (P := P) (w := w) (base := base) E
  have G__law_try := ok__law_try (P := P) (w := w) (base := base) E G__law_field
  have G_least_modulus := ok_least_modulus (P := P) (w := w) (base := base) E
  have G_numbered_t := ok_numbered_t (P := P) (w := w) (base := base) E
  have G_numbered_b := ok_numbered_b (P := P) (w := w) (base := base) E
  have G_classes_of := ok_classes_of (P := P) (w := w) (base := base) E G_numbered_t G_numbered_b
  have G_least_table := ok_least_table (P := P) (w := w) (base := base) E G_least_modulus G_classes_of
  have G_is_number := ok_is_number (P := P) (w := w) (base := base) E
  have G_is_spot := ok_is_spot (P := P) (w := w) (base := base) E G_is_number
  have G_is_row := ok_is_row (P := P) (w := w) (base := base) E G_is_spot
  have G_are_truths := ok_are_truths (P := P) (w := w) (base := base) E
  have G_is_table := ok_is_table (P := P) (w := w) (base := base) E G_is_spot G_is_row G_are_truths G_is_number
  have G_PairSet___init__ := ok_PairSet___init__ (P := P) (w := w) (base := base) E G_least_table G_is_table X_InvalidTable
  have G__law_set := ok__law_set (P := P) (w := w) (base := base) E G_PairSet___init__
  have G__law_pull := ok__law_pull (P := P) (w := w) (base := base) E
  have G__law_of := ok__law_of (P := P) (w := w) (base := base) E G__law_pull
  have G__law_spoilt := ok__law_spoilt (P := P) (w := w) (base := base) E G__law_of G__law_pull
  have G__law_table := ok__law_table (P := P) (w := w) (base := base) E G__law_pull G__law_of
  have G__law_bag := ok__law_bag (P := P) (w := w) (base := base) E
  exact ok_law F E TB G_PairSet___len__ G__law_field G__law_try G__law_set G__law_spoilt G__law_table G__law_bag
abbrev Rw : PySem.W.OpenRow := PySem.W.OpenLaw.row PySem.Challenge.rw_addpath_k28_tables_are_checked
abbrev hk : PySem.W.Hook := hookW 6 fal fnl fna fns [("law", none)] exf
def ob (s : PySem.W.SharedT) : AlW := obsW 6 fal fnl fna fns [("law", none)] exf (HandSHeadRun.getT s)
theorem ob_eq (s : PySem.W.SharedT) : ob s = hk.obs s.abs := obsW_eq (HandSHeadRun.getT_eq s)
def loose : List Str := "_wall" :: "PathError" :: "Missing" :: "InvalidPair" :: "InvalidPath" :: "InvalidTable" :: "InvalidCount" :: "NothingLeft" :: "is_number" :: "common_divisor" :: "common_multiple" :: "LETTERS" :: "BOTTOMS" :: "is_pair" :: "need_pair" :: "divisor" :: "bottom" :: "runs" :: "is_run" :: "pair_of" :: "MODULI" :: "PARTS" :: "are_truths" :: "is_spot" :: "is_row" :: "is_table" :: "numbered" :: "classes_of" :: "least_modulus" :: "least_table" :: "spot_after" :: "has_bottom" :: "spot_far" :: "has_pair" :: "both_true" :: "table_of_two" :: "other_table" :: "MOST_LETTERS" :: "MOST_LISTED" :: "PairSet" :: "need_size" :: "runs_in" :: "_law_bag" :: "_law_pull" :: "_law_of" :: "_law_field" :: "_law_try" :: "_law_table" :: "_law_set" :: "_law_spoilt" :: []
theorem run (w : World) : HandSHeadRun.RunEq Rw (PySem.W.view Rw.prog [56]) hk ob 20000 loose w := by
  intro os
  kernel_rfl
end Lw
open PySem PySem.W PySem.Calls PyProof.Rows
set_option maxRecDepth 100000 in
set_option maxHeartbeats 0 in
theorem PySem.Challenge.cw_addpath_k28_tables_are_checked_holds : PySem.Challenge.rw_addpath_k28_tables_are_checked.Holds := by
  w_on; o_law
  refine HandSHeadRun.head_any (r := OpenLaw.row PySem.Challenge.rw_addpath_k28_tables_are_checked) (q := view (OpenLaw.row PySem.Challenge.rw_addpath_k28_tables_are_checked).prog [56]) (H := Lw.hk) (ob := Lw.ob) (M := 20000) (loose := Lw.loose) (d := HandSHeadRun.topDef (OpenLaw.row PySem.Challenge.rw_addpath_k28_tables_are_checked).prog 56) (kwd := []) Lw.ob_eq
    (by kernel_rfl) (fun s => by kernel_rfl) Lw.run (by kernel_rfl) (by kernel_rfl) (by kernel_rfl) (by rfl) (by first | assumption | decide +kernel) (by decide +kernel) ⟨rfl, rfl, rfl, rfl, rfl, by decide +kernel⟩ ?hw ?hc
  case hw => w_witness2
  case hc =>
    refine LamX.walk_ofTsE (l := PySem.Challenge.rw_addpath_k28_tables_are_checked) (n := 63) (k := 11) (x := "script") (CX := fun _ => L2.CX0) rfl (by decide) (by kernel_rfl) ⟨rfl, by decide, by decide⟩ ?F (fun _ _ _ _ _ z => z)
    intro w mg fa h Y G hmg0
    obtain ⟨K, KX, c⟩ := Y
    have hmg : mg ("law" : PySem.Str) = some (.ref fa) := by
      have e : (HandSHeadRun.topDef (OpenLaw.row PySem.Challenge.rw_addpath_k28_tables_are_checked).prog 56).name = ("law" : PySem.Str) := by kernel_rfl
      rw [← e]
      exact hmg0
    refine ⟨K, KX, ?_⟩
    exact Bx.closingW (sp := Lw.sp_law) KX G hmg c (fun E => Lw.En.gl E "law") (c.d.def_ 20 (d := Lw.d_law) rfl) (fun base fd E SS TB F => Lw.all _ w base E ⟨by kernel_rfl, by kernel_rfl⟩ SS TB F) (fun F s v => L2.FunD.bindsA (ps := ["script"]) F (fun _ _ _ _ _ _ us hl => match us, hl with | [_], _ => rfl) s [v] rfl)
      (fun H a ns hl hT hS => Lw.sp_law_holds H a ns hl hT hS)
#print axioms PySem.Challenge.cw_addpath_k28_tables_are_checked_holds
