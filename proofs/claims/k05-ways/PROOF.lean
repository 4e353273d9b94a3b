import PyProof.Rows.All
import Wide.All
import OpenK.AllK
import Wide.FinOn
import PyProof.EqAt
import PyProof.EqKinds
import PyProof.TupleCall
import KE.KStateDown
import HandS.ForMost
import HandS.More
import HandS.Wide
import HandS.IsInst
import HandS.Zip
import HandS.TupAny
import HandS.Steps
import HandS.Exc
import HandS.Defaults
import HandS.Style
import HandS.Head0
import HandS.Head1
import HandS.Head2
import HandS.HeadEnd
import HandS.HeadHook1
import HandS.HeadHook2
import HandS.Codes
import HandS.Walk
import HandS.RaiseMore
import PySem.Challenge.RW_addpath_k05_ways_between_pairs
set_option Elab.async false
set_option linter.all false
set_option maxRecDepth 100000
set_option maxHeartbeats 4000000
/-! small things that all defs lean on -/
namespace Bx
open PySem PySem.Spec PyProof.Rows L2
/-- what the head has told: the facts of names, the defs -/
structure Env (fal : List He.Fa) (fnl : List He.DefD) (K : PySem.W.Frag) (mg : Str → Option Value) : Prop where
  ex : ∃ h : Heap, K.In h ∧ h.Ns mainGlobals mg
  says : He.SaysD fal fnl K
theorem Env.ok {fal : List He.Fa} {fnl : List He.DefD} {K : PySem.W.Frag} {mg : Str → Option Value} (E : Env fal fnl K mg) {f : He.Fa} (h : f ∈ fal) : f.ok K = true := by
  obtain ⟨i, hi⟩ := List.getElem?_of_mem h
  exact E.says.fact i hi
theorem Env.glo {fal : List He.Fa} {fnl : List He.DefD} {K : PySem.W.Frag} {mg : Str → Option Value} (E : Env fal fnl K mg) (x : Str) (h : He.Fa.glo x ∈ fal) : mg x = some (.ref (He.ga K x)) := by
  obtain ⟨hp, X, G⟩ := E.ex
  exact He.glo_ok X G (E.ok h)
theorem Env.free {fal : List He.Fa} {fnl : List He.DefD} {K : PySem.W.Frag} {mg : Str → Option Value} (E : Env fal fnl K mg) (x : Str) (h : He.Fa.free x ∈ fal) : mg x = none := by
  obtain ⟨hp, X, G⟩ := E.ex
  exact He.free_ok X G (E.ok h)
/-- a def that stands under the module's name x and keeps its promise -/
def Good (P : Program) (w : World) (K : PySem.W.Frag) (mg : Str → Option Value) (base : Heap) (CX : CXT) (k : Nat) (x : Str) (ps : List Str) (sp : Sp) : Prop :=
  ∃ fd, FnOk P w K mg base CX k (He.ga K x) fd ps sp ∧ Binds K fd ps [] ∧ PySem.W.keepIn K (.ref (He.ga K x)) = true ∧ mg x = some (.ref (He.ga K x))
section
variable {X : Cx} {CX : CXT} {k : Nat} {ps : List Str} {sp : Sp} {E : XK} {x : Str} {p pos : Pos} {e : Expr} {es : List Expr} {t : TA}
theorem pe_G (F : Good X.prog X.w X.K X.mg X.base CX k x ps sp) (hr : Room k X.A) (hg : Gl X x) (hx : Passes CX X E) (ha : PA X (e :: es) t)
    (hdb : (x == ("__debug__" : Str)) = false := by decide) (he : starEach (e :: es) X.env = (false, eval e X.env) :: starEach es X.env := by rfl) (hpl : (backTo pos (starEach es X.env)).any (·.1) = false := by rfl) :
    PE X (.Call (.Name x p) (e :: es) [] pos) (tCall sp [] E t) := by
  obtain ⟨fd, F, b, kp, m⟩ := F
  exact pe_call F hr hg m kp b .nil hx ha hdb he hpl
end
/-- the same, with the def itself: for calls with keywords -/
def GoodD (P : Program) (w : World) (K : PySem.W.Frag) (mg : Str → Option Value) (base : Heap) (CX : CXT) (k : Nat) (d : He.DefD) (x : Str) (ps : List Str) (sp : Sp) : Prop :=
  ∃ fd, FnOk P w K mg base CX k (He.ga K x) fd ps sp ∧ Binds K fd ps [] ∧ PySem.W.keepIn K (.ref (He.ga K x)) = true ∧ mg x = some (.ref (He.ga K x)) ∧ FunD K d.name d.qual d.params d.body d.scope (d.dvs K) (d.kws K) (He.ga K x) fd
theorem GoodD.good {P : Program} {w : World} {K : PySem.W.Frag} {mg : Str → Option Value} {base : Heap} {CX : CXT} {k : Nat} {d : He.DefD} {x : Str} {ps : List Str} {sp : Sp} (h : GoodD P w K mg base CX k d x ps sp) : Good P w K mg base CX k x ps sp := by
  obtain ⟨fd, F, b, kp, m, _⟩ := h
  exact ⟨fd, F, b, kp, m⟩
theorem _root_.L2.FunD.bindsW {K : PySem.W.Frag} {x qual : Str} {params : Arguments} {body : List Stmt} {scope : Scope} {kws : List (Str × V)} {f : Addr} {fd : FuncData} {args : Args} {binds : List (Str × Value)} (F : FunD K x qual params body scope [] kws f fd)
    (h : ∀ (kV doc pm : Value) (an : Option Addr) (cdv ct : Value), bindArgs (PySem.W.fnOf x qual params body scope .none kV doc pm an cdv ct) args = pure binds) (s : Shared) : BindsTo s fd args binds := by
  obtain ⟨oc, od, dV, kV, doc, pm, an, cdv, ct, osl, rfl, lk, hcd, hD, hK⟩ := F.ex
  rcases hD with ⟨_, rfl⟩ | ⟨e, _⟩
  · exact .of_eq (h kV doc pm an cdv ct)
  · exact absurd rfl e
section
variable {X : Cx} {CX : CXT} {k : Nat} {ps ks : List Str} {sp : Sp} {E : XK} {x : Str} {p pos : Pos} {kws : List Keyword} {tk : TA} {d : He.DefD}
/-- f(k = v, ..), all parameters by keywords in their order -/
theorem pe_GK0 (F : GoodD X.prog X.w X.K X.mg X.base CX k d x ps sp) (hr : Room k X.A) (hg : Gl X x) (hx : Passes CX X E)
    (hb : ∀ {fd}, FunD X.K d.name d.qual d.params d.body d.scope (d.dvs X.K) (d.kws X.K) (He.ga X.K x) fd → ∀ (s : Shared) (us : List Value), us.length = ps.length → BindsTo s fd ⟨[], ps.zip us⟩ (ps.zip us))
    (hkw : PK X kws tk) (hall : (backToKw pos (keywordEach kws X.env)).all (·.1.isSome) = true := by rfl) (hks : (backToKw pos (keywordEach kws X.env)).filterMap (·.1) = ps := by rfl)
    (hdb : (x == ("__debug__" : Str)) = false := by decide) (hpl : ((backTo pos (starEach [] X.env)).any (·.1) || (backToKw pos (keywordEach kws X.env)).any (·.1.isNone)) = false := by rfl) :
    PE X (.Call (.Name x p) [] kws pos) (fun σ H Q => tk σ H fun zs H1 => sp zs H1 Q E) := by
  obtain ⟨fd, F, _, kp, m, D⟩ := F
  refine ⟨fun pins s σ H Q I h => ?_⟩
  refine wpAny_Call_Name_kw (ld_glob I hg m ?_ hdb)
  refine PySem.W.callWith_KW0 (h₀ := X.base) I.ok.mod.kin kp hall (thn (hkw.run pos pins s σ H _ I h) fun ws s2 ⟨zs, H2, I2, rz, q2⟩ => ⟨I2.kIn, ?_⟩) hpl
  rw [hks, List.append_nil]
  have l2 : ws.length = ps.length := by rw [← rz.length]; exact F.len _ _ _ _ q2
  refine wpAny_call (codeAny_mono (F.run X.A X.stack s2 H2 ⟨[], ps.zip ws⟩ ws zs Q E hr I2.env0 (hb D s2 ws l2) rz q2) fun r s' hq => ?_)
  cases r with
  | error e => exact hx pins σ H2 s2 e s' I2 hq
  | ok fl =>
    cases fl with
    | ret u => exact I2.after hq
    | next => exact False.elim hq
    | brk => exact False.elim hq
    | cont => exact False.elim hq
end
/-- list(t), said with K -/
def rLof (K : PySem.W.Frag) : List V → Hp → VK → Prop := fun xs H Q => ∃ p ys, xs = [.ref p] ∧ (SqL K H p ys ∨ SqT K H p ys) ∧ ∀ l, H l = none → Q (.ref l) (L2.upd H l (.lst ys))
theorem ite_f {c : Bool} {A B : Prop} (hc : c = false) (h : B) : if c = true then A else B := by
  rw [hc]
  exact iteF h
theorem ite_t {c : Bool} {A B : Prop} (hc : c = true) (h : A) : if c = true then A else B := by
  rw [hc]
  exact iteT h
theorem dne {i j : Int} (h : i ≠ j) : decide (V.int i = V.int j) = false := decide_eq_false fun z => h (V.int.inj z)
theorem deq {i j : Int} (h : i = j) : decide (V.int i = V.int j) = true := decide_eq_true (congrArg V.int h)
theorem hu64_of {A : Around} {k : Nat} (hr : Room k A) : A.units + 64 < cLine := Nat.lt_of_le_of_lt (Nat.le_refl _) hr.units
theorem closing {fal : List He.Fa} {fnl : List He.DefD} {P : Program} {w : World} {K : PySem.W.Frag} {h : Heap} {mg : Str → Option Value} {fa : Addr} {k : Nat} {sp : PySem.W.Frag → Sp} {pa : Arguments} {bd : List Stmt} {sc : Scope}
    (KX : K.In h) (G : h.Ns mainGlobals mg) (hmg : mg ("law" : Str) = some (.ref fa)) (c : He.SaysD fal fnl K) (gl : Env fal fnl K mg → mg ("law" : Str) = some (.ref (He.ga K "law")))
    (D : ∃ fd, FunD K "law" "law" pa bd sc [] [] (He.ga K "law") fd)
    (F : ∀ (base : Heap) (fd : FuncData), Env fal fnl K mg → FunD K "law" "law" pa bd sc [] [] (He.ga K "law") fd → FnOk P w K mg base CX0 k (He.ga K "law") fd ["script"] (sp K))
    (b : ∀ {fd : FuncData}, FunD K "law" "law" pa bd sc [] [] (He.ga K "law") fd → ∀ (s : Shared) (v : Value), BindsTo s fd ⟨[v], []⟩ [("script", v)])
    (hsp : ∀ (H : Hp) (a : Addr) (ns : List Int), ns.length ≤ 63 → SqL K H a (ns.map V.int) → sp K [.ref a] H (fun v _ => v = .bl true) fun _ _ _ => False) :
    ∃ (K : PySem.W.Frag) (fd : FuncData) (sp : Sp), K.In h ∧ (∀ (s : Shared) (u : Value), BindsTo s fd ⟨[u], []⟩ [("script", u)]) ∧
        (∀ (H : Hp) (a : Addr) (ns : List Int), ns.length ≤ 63 → Only H → SqL K H a (ns.map V.int) → sp [.ref a] H (fun v _ => v = .bl true) fun _ _ _ => False) ∧
        ∀ base : Heap, K.In base → base.Ns mainGlobals mg → FnOk P w K mg base CX0 k fa fd ["script"] sp := by
  have E : Env fal fnl K mg := ⟨⟨h, KX, G⟩, c⟩
  obtain ⟨fd, hD⟩ := D
  have e := (gl E).symm.trans hmg
  cases e
  exact ⟨K, fd, sp K, KX, b hD, fun H a ns hl _ hS => hsp H a ns hl hS, fun base _ _ => F base fd E hD⟩
end Bx

/-! slices, kinds, places -/
namespace Bx
open PySem PySem.Spec PyProof.Rows L2
theorem cut_to {xs : List V} {n : Nat} (h : xs.length ≤ n) : cutV xs none (some (n : Int)) = xs := by
  unfold cutV
  rw [HT.sIx_none, HT.sIx_nat, Nat.min_eq_right h, List.drop_zero, Nat.sub_zero, List.take_length]
theorem cut63 {xs : List V} (h : xs.length ≤ 63) : cutV xs none (some 63) = xs := cut_to (n := 63) h
theorem cut_from1 (xs : List V) : cutV xs (some 1) none = xs.drop 1 := by
  unfold cutV
  rw [HT.sIx_none, show (1 : Int) = ((1 : Nat) : Int) from rfl, HT.sIx_nat]
  cases xs with
  | nil => rfl
  | cons x r => simp
theorem tyL {K : PySem.W.Frag} {H : Hp} {a : Addr} {xs : List V} (h : SqL K H a xs) : TyX K H (.ref a) (.type "list") := by
  rcases h with (h | ⟨o, h⟩) | ⟨o, its, n, h, c, _⟩
  · exact .base (.lst h)
  · exact .base (.frz h)
  · exact .kList h c
theorem tyT {K : PySem.W.Frag} {H : Hp} {a : Addr} {xs : List V} (h : SqT K H a xs) : TyX K H (.ref a) (.type "tuple") := by
  rcases h with (h | ⟨o, h⟩) | ⟨o, its, n, h, c, _⟩
  · exact .base (.tup h)
  · exact .fTuple h
  · exact .kTuple h c
/-- isinstance(x, T), both built-in -/
theorem isi {K : PySem.W.Frag} {H : Hp} {x : V} {a b : String} {r : Bool} {Q : VK} (t : TyX K H x (.type a)) (e : kitB a b = some r) (q : Q (.bl r) H) : rIsi K [x, .ty b] H Q :=
  ⟨x, .ty b, _, _, r, rfl, .ty b, t, kit_ty e, q⟩
theorem seqT {K : PySem.W.Frag} {H H' : Hp} {a : Addr} {xs : List V} (e : Same H H') (h : SqT K H a xs) : SqT K H' a xs := by
  rcases h with (h | ⟨o, h⟩) | h
  · exact .inl (.inl (e _ _ h))
  · exact .inl (.inr ⟨o, e _ _ h⟩)
  · exact .inr h
theorem same_new {H : Hp} {p : Addr} {o : HO} (h : H p = none) : Same H (upd H p o) := fun b u q => by rw [upd_ne (ne_of_none q h)]; exact q
/-- an object that H does not know may change -/
theorem same_mut {H H' : Hp} {p : Addr} {o : HO} (e : Same H H') (h : H p = none) : Same H (upd H' p o) := fun b u q => by rw [upd_ne (ne_of_none q h)]; exact e b u q
theorem sz {n : Nat} (h : n ≤ 100000) : n ≤ sizeLine := Nat.le_trans h (by decide)
theorem szl {n : Nat} (h : n < 100000) : n < sizeLine := Nat.lt_of_lt_of_le h (by decide)
/-- all but the object at b is as it was -/
def Kp (b : Addr) (H H' : Hp) : Prop := ∀ a o, a ≠ b → H a = some o → H' a = some o
theorem Kp.refl (b : Addr) (H : Hp) : Kp b H H := fun _ _ _ h => h
theorem Kp.trans {b : Addr} {H H1 H2 : Hp} (x : Kp b H H1) (y : Kp b H1 H2) : Kp b H H2 := fun a o n h => y a o n (x a o n h)
theorem Kp.of {b : Addr} {H H' : Hp} (x : Same H H') : Kp b H H' := fun a o _ h => x a o h
theorem Kp.put {b : Addr} {H : Hp} {o : HO} : Kp b H (L2.upd H b o) := fun a u n h => by rw [upd_ne n]; exact h
theorem Kp.new {b p : Addr} {H H' : Hp} {o : HO} (e : Kp b H H') (h : H' p = none) : Kp b H (L2.upd H' p o) := e.trans (Kp.of (same_new h))
end Bx
namespace Bx
open PySem PySem.Spec PyProof.Rows L2
theorem Kp.seq {K : PySem.W.Frag} {b a : Addr} {H H' : Hp} {xs : List V} (e : Kp b H H') (n : a ≠ b) (h : SqL K H a xs) : SqL K H' a xs := by
  rcases h with (h | ⟨o, h⟩) | h
  · exact .inl (.inl (e _ _ n h))
  · exact .inl (.inr ⟨o, e _ _ n h⟩)
  · exact .inr h
end Bx
namespace Bx
open PySem PySem.Spec PyProof.Rows L2
theorem cut_from (xs : List V) (n : Nat) : cutV xs (some (n : Int)) none = xs.drop n := by
  unfold cutV
  rw [HT.sIx_none, HT.sIx_nat]
  by_cases h : n ≤ xs.length
  · rw [Nat.min_eq_left h]
    exact List.take_of_length_le (by rw [List.length_drop]; exact Nat.le_refl _)
  · rw [Nat.min_eq_right (by omega), Nat.sub_self, List.take_zero, List.drop_eq_nil_of_le (by omega)]
theorem atI_nat' {α : Type} {xs : List α} {j : Nat} (h : j < xs.length) : atI xs (j : Int) = some xs[j] := atI_nat (List.getElem?_eq_getElem h)
end Bx

-- needs lists
/-! data of any depth in a heap that grows -/
namespace Bx
open PySem PySem.Spec PyProof.Rows L2
mutual
theorem Dp.same {K : PySem.W.Frag} {H H' : Hp} (e : Same H H') : ∀ {d : PyData} {v : V}, Dp K H v d → Dp K H' v d
  | .none, _, h => by cases h; exact .non
  | .bool _, _, h => by cases h; exact .bl _
  | .int _, _, h => by cases h; exact .int _
  | .str _, _, h => by cases h; exact .str _
  | .list _, _, h => by
    cases h with
    | lst hs ha => exact .lst (e.seq hs) (Dp.sameAll e ha)
  | .tuple _, _, h => by
    cases h with
    | tup hs ha => exact .tup (seqT e hs) (Dp.sameAll e ha)
  | .dict _, _, h => by cases h
theorem Dp.sameAll {K : PySem.W.Frag} {H H' : Hp} (e : Same H H') : ∀ {ds : List PyData} {vs : List V}, DpAll K H vs ds → DpAll K H' vs ds
  | [], _, h => by cases h; exact .nil
  | _ :: _, _, h => by
    cases h with
    | cons h1 h2 => exact .cons (Dp.same e h1) (Dp.sameAll e h2)
end
theorem DpAll.length {K : PySem.W.Frag} {H : Hp} : ∀ {ds : List PyData} {vs : List V}, DpAll K H vs ds → vs.length = ds.length
  | [], _, h => by cases h; rfl
  | _ :: _, _, h => by
    cases h with
    | cons h1 h2 => exact congrArg Nat.succ (DpAll.length h2)
theorem DpAll.get {K : PySem.W.Frag} {H : Hp} : ∀ {ds : List PyData} {vs : List V} {i : Nat} {v : V}, DpAll K H vs ds → vs[i]? = some v → ∃ d, ds[i]? = some d ∧ Dp K H v d
  | [], _, _, _, h, e => by cases h; cases e
  | _ :: _, _, 0, _, h, e => by
    cases h with
    | cons h1 h2 =>
      cases e
      exact ⟨_, rfl, h1⟩
  | _ :: _, _, i + 1, _, h, e => by
    cases h with
    | cons h1 h2 =>
      obtain ⟨d, q1, q2⟩ := DpAll.get (i := i) h2 (by simpa using e)
      exact ⟨d, by simpa using q1, q2⟩
theorem DpAll.append {K : PySem.W.Frag} {H : Hp} : ∀ {ds es : List PyData} {vs us : List V}, DpAll K H vs ds → DpAll K H us es → DpAll K H (vs ++ us) (ds ++ es)
  | [], _, _, _, h, g => by cases h; exact g
  | _ :: _, _, _, _, h, g => by
    cases h with
    | cons h1 h2 => exact .cons h1 (DpAll.append h2 g)
theorem DpAll.one {K : PySem.W.Frag} {H : Hp} {d : PyData} {v : V} (h : Dp K H v d) : DpAll K H [v] [d] := .cons h .nil
/-- two things of one tuple -/
theorem Dp.pair {K : PySem.W.Frag} {H : Hp} {v : V} {d e : PyData} (h : Dp K H v (.tuple [d, e])) : ∃ a x y, v = .ref a ∧ SqT K H a [x, y] ∧ Dp K H x d ∧ Dp K H y e := by
  cases h with
  | @tup a xs _ hs ha =>
    cases ha with
    | cons h1 h2 =>
      cases h2 with
      | cons h3 h4 =>
        cases h4
        exact ⟨_, _, _, rfl, hs, h1, h3⟩
theorem Dp.lst' {K : PySem.W.Frag} {H : Hp} {v : V} {ds : List PyData} (h : Dp K H v (.list ds)) : ∃ a xs, v = .ref a ∧ SqL K H a xs ∧ DpAll K H xs ds := by
  cases h with
  | lst hs ha => exact ⟨_, _, rfl, hs, ha⟩
theorem Dp.int' {K : PySem.W.Frag} {H : Hp} {v : V} {i : Int} (h : Dp K H v (.int i)) : v = .int i := by cases h; rfl
theorem Dp.str' {K : PySem.W.Frag} {H : Hp} {v : V} {x : Str} (h : Dp K H v (.str x)) : v = .str x := by cases h; rfl
theorem Dp.bl' {K : PySem.W.Frag} {H : Hp} {v : V} {x : Bool} (h : Dp K H v (.bool x)) : v = .bl x := by cases h; rfl
theorem Dp.non' {K : PySem.W.Frag} {H : Hp} {v : V} (h : Dp K H v .none) : v = .non := by cases h; rfl
end Bx
namespace Bx
open PySem PySem.Spec PyProof.Rows L2
/-- all that is no list is as it was -/
def SameT (H H' : Hp) : Prop := ∀ a o, H a = some o → (∀ ys, o ≠ .lst ys) → H' a = some o
theorem SameT.refl (H : Hp) : SameT H H := fun _ _ h _ => h
theorem SameT.trans {H H1 H2 : Hp} (x : SameT H H1) (y : SameT H1 H2) : SameT H H2 := fun a o h n => y a o (x a o h n) n
theorem SameT.of {H H' : Hp} (e : Same H H') : SameT H H' := fun a o h _ => e a o h
theorem SameT.put {H : Hp} {a : Addr} {xs : List V} {o : HO} (h : H a = some (.lst xs)) : SameT H (L2.upd H a o) := fun b u q n => by
  have nb : b ≠ a := fun z => by
    rw [z, h] at q
    exact n _ (Option.some.inj q).symm
  rw [upd_ne nb]
  exact q
theorem SameT.new {H : Hp} {p : Addr} {o : HO} (h : H p = none) : SameT H (L2.upd H p o) := .of (same_new h)
theorem SameT.seqT {K : PySem.W.Frag} {H H' : Hp} {a : Addr} {xs : List V} (e : SameT H H') (h : SqT K H a xs) : SqT K H' a xs := by
  rcases h with (h | ⟨o, h⟩) | h
  · exact .inl (.inl (e _ _ h fun _ z => by cases z))
  · exact .inl (.inr ⟨o, e _ _ h fun _ z => by cases z⟩)
  · exact .inr h
mutual
/-- no list within -/
def noL : PyData → Bool
  | .none => true
  | .bool _ => true
  | .int _ => true
  | .str _ => true
  | .list _ => false
  | .tuple ds => noLs ds
  | .dict _ => false
def noLs : List PyData → Bool
  | [] => true
  | d :: ds => noL d && noLs ds
end
mutual
theorem Dp.sameT {K : PySem.W.Frag} {H H' : Hp} (e : SameT H H') : ∀ {d : PyData} {v : V}, noL d = true → Dp K H v d → Dp K H' v d
  | .none, _, _, h => by cases h; exact .non
  | .bool _, _, _, h => by cases h; exact .bl _
  | .int _, _, _, h => by cases h; exact .int _
  | .str _, _, _, h => by cases h; exact .str _
  | .list _, _, n, _ => by cases n
  | .tuple _, _, n, h => by
    cases h with
    | tup hs ha => exact .tup (e.seqT hs) (Dp.sameTs e (by rw [noL] at n; exact n) ha)
  | .dict _, _, _, h => by cases h
theorem Dp.sameTs {K : PySem.W.Frag} {H H' : Hp} (e : SameT H H') : ∀ {ds : List PyData} {vs : List V}, noLs ds = true → DpAll K H vs ds → DpAll K H' vs ds
  | [], _, _, h => by cases h; exact .nil
  | _ :: _, _, n, h => by
    cases h with
    | cons h1 h2 =>
      rw [noLs, Bool.and_eq_true] at n
      exact .cons (Dp.sameT e n.1 h1) (Dp.sameTs e n.2 h2)
end
theorem noLs_map {α : Type} {f : α → PyData} (h : ∀ x, noL (f x) = true) : ∀ l : List α, noLs (l.map f) = true
  | [] => rfl
  | x :: l => by rw [List.map_cons, noLs, h x, noLs_map h l]; rfl
end Bx
namespace Bx
open PySem PySem.Spec PyProof.Rows L2
mutual
/-- no list or tuple has more than 90000 items -/
def smallD : PyData → Bool
  | .list ds => decide (ds.length ≤ 90000) && smallDs ds
  | .tuple ds => decide (ds.length ≤ 90000) && smallDs ds
  | _ => true
def smallDs : List PyData → Bool
  | [] => true
  | d :: ds => smallD d && smallDs ds
end
theorem smallDs_get : ∀ {ds : List PyData} {i : Nat} {d : PyData}, smallDs ds = true → ds[i]? = some d → smallD d = true
  | [], _, _, _, h => by cases h
  | _ :: _, 0, _, s, h => by
    cases h
    rw [smallDs, Bool.and_eq_true] at s
    exact s.1
  | _ :: ds, i + 1, _, s, h => by
    rw [smallDs, Bool.and_eq_true] at s
    exact smallDs_get (ds := ds) (i := i) s.2 (by simpa using h)
theorem small_ofL {ds : List PyData} (h : smallD (.list ds) = true) : ds.length ≤ 90000 ∧ ∀ {i : Nat} {d : PyData}, ds[i]? = some d → smallD d = true := by
  rw [smallD, Bool.and_eq_true] at h
  exact ⟨of_decide_eq_true h.1, smallDs_get h.2⟩
theorem small_ofT {ds : List PyData} (h : smallD (.tuple ds) = true) : ds.length ≤ 90000 ∧ ∀ {i : Nat} {d : PyData}, ds[i]? = some d → smallD d = true := by
  rw [smallD, Bool.and_eq_true] at h
  exact ⟨of_decide_eq_true h.1, smallDs_get h.2⟩
theorem smallDs_map {α : Type} {f : α → PyData} (h : ∀ x, smallD (f x) = true) : ∀ l : List α, smallDs (l.map f) = true
  | [] => rfl
  | x :: l => by rw [List.map_cons, smallDs, h x, smallDs_map h l]; rfl
theorem smallL {ds : List PyData} (h : ds.length ≤ 90000) (h2 : smallDs ds = true) : smallD (.list ds) = true := by rw [smallD, h2, decide_eq_true h]; rfl
end Bx
namespace Bx
open PySem PySem.Spec PyProof.Rows L2
theorem depthAll_map {α : Type} {f : α → PyData} {n : Nat} (h : ∀ x, (f x).depth ≤ n) : ∀ l : List α, PyData.depthAll (l.map f) ≤ n
  | [] => Nat.zero_le _
  | x :: l => by
    rw [List.map_cons, PyData.depthAll]
    exact Nat.max_le.mpr ⟨h x, depthAll_map h l⟩
end Bx

-- needs deep
/-! pairs of numbers, their runs, their letters -/
namespace Bx
open PySem PySem.Spec PyProof.Rows L2
/-- a pair with numbers from 0 on, not both 0, below 2 ^ 4000 -/
def okP (x y : Nat) : Prop := ¬ (x = 0 ∧ y = 0) ∧ x < 2 ^ 4000 ∧ y < 2 ^ 4000
def PairAt (K : PySem.W.Frag) (H : Hp) (v : V) (x y : Nat) : Prop := ∃ a, v = .ref a ∧ SqT K H a [.int (x : Int), .int (y : Int)]
theorem PairAt.same {K : PySem.W.Frag} {H H' : Hp} {v : V} {x y : Nat} (h : PairAt K H v x y) (e : Same H H') : PairAt K H' v x y := by
  obtain ⟨a, e1, h⟩ := h
  exact ⟨a, e1, seqT e h⟩
theorem at2_0 (a b : V) : atI [a, b] 0 = some a := rfl
theorem at2_1 (a b : V) : atI [a, b] 1 = some b := rfl
/-- the runs from the top: true is X -/
def R (x y : Nat) : List (Bool × Nat) :=
  if h : 0 < x ∧ 0 < y ∧ x ≠ y then
    if x > y then (true, (x - 1) / y) :: R (x - (x - 1) / y * y) y else (false, (y - 1) / x) :: R x (y - (y - 1) / x * x)
  else []
termination_by x + y
decreasing_by
  · have h1 : 0 < (x - 1) / y := Nat.div_pos (by omega) h.2.1
    have h2 : 0 < (x - 1) / y * y := Nat.mul_pos h1 h.2.1
    omega
  · have h1 : 0 < (y - 1) / x := Nat.div_pos (by omega) h.1
    have h2 : 0 < (y - 1) / x * x := Nat.mul_pos h1 h.1
    omega
theorem R_nil {x y : Nat} (h : ¬ (0 < x ∧ 0 < y ∧ x ≠ y)) : R x y = [] := by rw [R, dif_neg h]
theorem R_x {x y : Nat} (h : 0 < y) (h2 : x > y) : R x y = (true, (x - 1) / y) :: R (x - (x - 1) / y * y) y := by
  rw [R, dif_pos ⟨by omega, h, by omega⟩, if_pos h2]
theorem R_y {x y : Nat} (h : 0 < x) (h2 : y > x) : R x y = (false, (y - 1) / x) :: R x (y - (y - 1) / x * x) := by
  rw [R, dif_pos ⟨h, by omega, by omega⟩, if_neg (by omega)]
theorem dm_le (x y : Nat) : (x - 1) / y * y ≤ x := Nat.le_trans (Nat.div_mul_le_self _ _) (Nat.sub_le _ _)
theorem dm_lt {x y : Nat} (h : 0 < y) (h2 : x > y) : x - (x - 1) / y * y < x ∧ 0 < x - (x - 1) / y * y := by
  have h1 : 0 < (x - 1) / y := Nat.div_pos (by omega) h
  have h3 : 0 < (x - 1) / y * y := Nat.mul_pos h1 h
  have h4 : (x - 1) / y * y ≤ x - 1 := Nat.div_mul_le_self _ _
  omega
theorem cast_div {x y : Nat} (h : 0 < x) : ((x : Int) - 1) / (y : Int) = (((x - 1) / y : Nat) : Int) := by
  rw [Int.natCast_ediv]
  congr 1
  omega
theorem cast_sub {x y : Nat} : (x : Int) - (((x - 1) / y : Nat) : Int) * (y : Int) = ((x - (x - 1) / y * y : Nat) : Int) := by
  rw [Int.ofNat_sub (dm_le x y), Int.natCast_mul]
def letS (b : Bool) : Str := if b then "X" else "Y"
def runD (r : Bool × Nat) : PyData := .tuple [.str (letS r.1), .int (r.2 : Int)]
def runsD (l : List (Bool × Nat)) : PyData := .list (l.map runD)
/-- the letters from the top, one by one -/
def L (x y : Nat) : List Bool :=
  if h : 0 < x ∧ 0 < y ∧ x ≠ y then
    if x > y then true :: L (x - y) y else false :: L x (y - x)
  else []
termination_by x + y
theorem L_nil {x y : Nat} (h : ¬ (0 < x ∧ 0 < y ∧ x ≠ y)) : L x y = [] := by rw [L, dif_neg h]
theorem L_x {x y : Nat} (h : 0 < y) (h2 : x > y) : L x y = true :: L (x - y) y := by rw [L, dif_pos ⟨by omega, h, by omega⟩, if_pos h2]
theorem L_y {x y : Nat} (h : 0 < x) (h2 : y > x) : L x y = false :: L x (y - x) := by rw [L, dif_pos ⟨h, by omega, by omega⟩, if_neg (by omega)]
theorem L_xs {y : Nat} (h : 0 < y) : ∀ (k x : Nat), k * y < x → L x y = List.replicate k true ++ L (x - k * y) y
  | 0, x, _ => by simp
  | k + 1, x, h2 => by
    have e : (k + 1) * y = k * y + y := Nat.succ_mul k y
    rw [e] at h2
    rw [L_x h (by omega), L_xs h k (x - y) (by omega), List.replicate_succ, List.cons_append, show x - y - k * y = x - (k + 1) * y by omega]
theorem L_ys {x : Nat} (h : 0 < x) : ∀ (k y : Nat), k * x < y → L x y = List.replicate k false ++ L x (y - k * x)
  | 0, y, _ => by simp
  | k + 1, y, h2 => by
    have e : (k + 1) * x = k * x + x := Nat.succ_mul k x
    rw [e] at h2
    rw [L_y h (by omega), L_ys h k (y - x) (by omega), List.replicate_succ, List.cons_append, show y - x - k * x = y - (k + 1) * x by omega]
def spell (l : List (Bool × Nat)) : List Bool := l.flatMap fun r => List.replicate r.2 r.1
theorem spell_R (x y : Nat) : spell (R x y) = L x y := by
  by_cases h : 0 < x ∧ 0 < y ∧ x ≠ y
  · by_cases h2 : x > y
    · have d := dm_lt h.2.1 h2
      rw [R_x h.2.1 h2]
      show List.replicate _ true ++ spell (R _ y) = _
      rw [spell_R (x - (x - 1) / y * y) y, ← L_xs h.2.1 ((x - 1) / y) x (by omega)]
    · have d := dm_lt h.1 (show y > x by omega)
      rw [R_y h.1 (by omega)]
      show List.replicate _ false ++ spell (R x _) = _
      rw [spell_R x (y - (y - 1) / x * x), ← L_ys h.1 ((y - 1) / x) y (by omega)]
  · rw [R_nil h, L_nil h]
    rfl
termination_by x + y
theorem spell_len : ∀ l : List (Bool × Nat), (spell l).length = (l.map (·.2)).sum
  | [] => rfl
  | r :: l => by
    show (List.replicate r.2 r.1 ++ spell l).length = _
    rw [List.length_append, List.length_replicate, spell_len l, List.map_cons, List.sum_cons]
theorem L_le (x y : Nat) : (L x y).length ≤ x + y := by
  by_cases h : 0 < x ∧ 0 < y ∧ x ≠ y
  · by_cases h2 : x > y
    · rw [L_x h.2.1 h2, List.length_cons]
      have := L_le (x - y) y
      omega
    · rw [L_y h.1 (by omega), List.length_cons]
      have := L_le x (y - x)
      omega
  · rw [L_nil h]
    exact Nat.zero_le _
termination_by x + y
/-- runs halve the numbers: there are few -/
theorem R_len (n : Nat) : ∀ (x y : Nat), x * y < 2 ^ n → (R x y).length ≤ n := by
  induction n with
  | zero =>
    intro x y h
    have z : ¬ (0 < x ∧ 0 < y ∧ x ≠ y) := fun ⟨h1, h2, _⟩ => by
      have := Nat.mul_pos h1 h2
      omega
    rw [R_nil z]
    exact Nat.le_refl _
  | succ n ih =>
    intro x y h
    by_cases c : 0 < x ∧ 0 < y ∧ x ≠ y
    · by_cases c2 : x > y
      · rw [R_x c.2.1 c2, List.length_cons]
        have d := dm_lt c.2.1 c2
        have e : (x - 1) / y * y + (x - 1) % y = x - 1 := by rw [Nat.mul_comm]; exact Nat.div_add_mod _ _
        have m : (x - 1) % y < y := Nat.mod_lt _ c.2.1
        have p : 0 < (x - 1) / y := Nat.div_pos (by omega) c.2.1
        have p2 : y ≤ (x - 1) / y * y := Nat.le_mul_of_pos_left _ p
        have half : 2 * (x - (x - 1) / y * y) ≤ x := by omega
        have q : 2 * ((x - (x - 1) / y * y) * y) ≤ x * y := by
          rw [← Nat.mul_assoc]
          exact Nat.mul_le_mul_right _ half
        have := ih (x - (x - 1) / y * y) y (by rw [Nat.pow_succ] at h; omega)
        omega
      · have c3 : y > x := by omega
        rw [R_y c.1 c3, List.length_cons]
        have d := dm_lt c.1 c3
        have e : (y - 1) / x * x + (y - 1) % x = y - 1 := by rw [Nat.mul_comm]; exact Nat.div_add_mod _ _
        have m : (y - 1) % x < x := Nat.mod_lt _ c.1
        have p : 0 < (y - 1) / x := Nat.div_pos (by omega) c.1
        have p2 : x ≤ (y - 1) / x * x := Nat.le_mul_of_pos_left _ p
        have half : 2 * (y - (y - 1) / x * x) ≤ y := by omega
        have q : 2 * (x * (y - (y - 1) / x * x)) ≤ x * y := by
          rw [show 2 * (x * (y - (y - 1) / x * x)) = x * (2 * (y - (y - 1) / x * x)) by rw [← Nat.mul_assoc, ← Nat.mul_assoc, Nat.mul_comm 2 x]]
          exact Nat.mul_le_mul_left _ half
        have := ih x (y - (y - 1) / x * x) (by rw [Nat.pow_succ] at h; omega)
        omega
    · rw [R_nil c]
      exact Nat.zero_le _
theorem R_len' {x y : Nat} (h : okP x y) : (R x y).length ≤ 8000 := by
  refine R_len 8000 x y ?_
  by_cases hy : 0 < y
  · have e : (2 : Nat) ^ 8000 = 2 ^ 4000 * 2 ^ 4000 := (Nat.pow_add 2 4000 4000)
    rw [e]
    exact Nat.mul_lt_mul'' h.2.1 h.2.2
  · have : y = 0 := by omega
    rw [this, Nat.mul_zero]
    exact Nat.pow_pos (by decide)
end Bx
namespace Bx
open PySem PySem.Spec PyProof.Rows L2
theorem noL_runD (r : Bool × Nat) : noL (runD r) = true := rfl
theorem PairAt.sameT {K : PySem.W.Frag} {H H' : Hp} {v : V} {x y : Nat} (h : PairAt K H v x y) (e : SameT H H') : PairAt K H' v x y := by
  obtain ⟨a, e1, h⟩ := h
  exact ⟨a, e1, e.seqT h⟩
theorem nat_abs {x n : Nat} (h : x < 2 ^ n) : ((x : Int)).natAbs < 2 ^ n := by rw [Int.natAbs_natCast]; exact h
theorem okDiv {i : Int} {y : Nat} (h0 : 0 < y) (h : y < 2 ^ 4000) : CDivW i (y : Int) := wide_div (by omega) (nat_abs h) (by decide) (by decide)
theorem okMul {x y : Nat} (h : x < 2 ^ 4000) (h2 : y < 2 ^ 4000) : CMulW (x : Int) (y : Int) := wide_mul (nat_abs h) (nat_abs h2) (by decide) (by decide) (by decide)
end Bx
namespace Bx
open PySem PySem.Spec PyProof.Rows L2
theorem sum_casts : ∀ l : List (Bool × Nat), ((l.map fun r => ((r.2 : Nat) : Int)).sum) = (((l.map (·.2)).sum : Nat) : Int)
  | [] => rfl
  | r :: l => by
    rw [List.map_cons, List.sum_cons, List.map_cons, List.sum_cons, sum_casts l, Int.natCast_add]
theorem sumR (x y : Nat) : ((R x y).map fun r => ((r.2 : Nat) : Int)).sum = (((L x y).length : Nat) : Int) := by rw [sum_casts, ← spell_len, spell_R]
theorem okP_small {x y : Nat} (h : ¬ (x = 0 ∧ y = 0)) (hx : x ≤ 1000000) (hy : y ≤ 1000000) : okP x y := by
  have e : 1000000 < 2 ^ 4000 := Nat.lt_of_lt_of_le (by decide : 1000000 < 2 ^ 20) (Nat.pow_le_pow_right (by decide) (by decide))
  exact ⟨h, Nat.lt_of_le_of_lt hx e, Nat.lt_of_le_of_lt hy e⟩
/-- a run of a list of runs -/
theorem run_get {K : PySem.W.Frag} {H : Hp} {us : List V} {l : List (Bool × Nat)} {i : Nat} {u : V} (g : DpAll K H us (l.map runD)) (hu : us[i]? = some u) :
    ∃ (c : Bool) (n : Nat) (p : Addr), l[i]? = some (c, n) ∧ u = .ref p ∧ SqT K H p [.str (letS c), .int (n : Int)] := by
  obtain ⟨d, hd, du⟩ := DpAll.get g hu
  obtain ⟨⟨c, n⟩, hr, rfl⟩ : ∃ r, l[i]? = some r ∧ runD r = d := by
    rw [List.getElem?_map] at hd
    cases q : l[i]? with
    | none => rw [q] at hd; cases hd
    | some r => rw [q] at hd; exact ⟨r, rfl, Option.some.inj hd⟩
  obtain ⟨p, a1, a2, rfl, hp, e1, e3⟩ := Dp.pair du
  cases Dp.str' e1
  cases Dp.int' e3
  exact ⟨c, n, p, hr, rfl, hp⟩
end Bx
namespace Bx
open PySem PySem.Spec PyProof.Rows L2
theorem runsD_depth (l : List (Bool × Nat)) : (runsD l).depth ≤ 2 := by
  show PyData.depthAll (l.map runD) + 1 ≤ 2
  have := depthAll_map (f := runD) (n := 1) (fun _ => Nat.le_refl _) l
  omega
theorem runsD_small {x y : Nat} (h : okP x y) : smallD (runsD (R x y)) = true := by
  refine smallL ?_ (smallDs_map (fun _ => rfl) _)
  have := R_len' h
  rw [List.length_map]
  omega
theorem Dp_runs {K : PySem.W.Frag} {H : Hp} {f : Addr} {us : List V} {l : List (Bool × Nat)} (h : SqL K H f us) (g : DpAll K H us (l.map runD)) : Dp K H (.ref f) (runsD l) := .lst h g
theorem letS_inj {a b : Bool} (h : a ≠ b) : decide (V.str (letS a) = V.str (letS b)) = false := by
  cases a <;> cases b
  · exact absurd rfl h
  · decide +kernel
  · decide +kernel
  · exact absurd rfl h
end Bx
namespace Bx
open PySem PySem.Spec PyProof.Rows L2
theorem beq_letS (a b : Bool) : (letS a == letS b) = (a == b) := by
  cases a <;> cases b <;> decide +kernel
theorem eqv_runD (x y : Bool × Nat) : PyData.eqv (runD x) (runD y) = decide (x = y) := by
  unfold runD
  simp only [PyData.eqv, PyData.eqvAll, beq_letS, Bool.and_true]
  rw [Bool.eq_iff_iff]
  simp [Prod.ext_iff]
  intro _
  omega
theorem canLay_runD (x : Bool × Nat) : (runD x).canLay0 = true := by
  obtain ⟨c, n⟩ := x
  cases c
  · show (PyData.canLay0 (.str "Y") && (true && true)) = true
    decide +kernel
  · show (PyData.canLay0 (.str "X") && (true && true)) = true
    decide +kernel
theorem canLay_map {α : Type} {f : α → PyData} (h : ∀ x, (f x).canLay0 = true) : ∀ l : List α, PyData.canLayAll0 (l.map f) = true
  | [] => by simp [PyData.canLayAll0]
  | x :: l => by
    rw [List.map_cons, PyData.canLayAll0, h x, canLay_map h l]
    rfl
theorem shaped_runD (x : Bool × Nat) : SeqAt.shaped (runD x) = true := by
  unfold SeqAt.shaped
  rw [canLay_runD]
  rfl
theorem shaped_runs (l : List (Bool × Nat)) : SeqAt.shaped (runsD l) = true := by
  unfold SeqAt.shaped
  have h : (runsD l).canLay0 = true := by
    show (PyData.list _).canLay0 = true
    rw [PyData.canLay0]
    exact canLay_map canLay_runD l
  have d := runsD_depth l
  rw [h, decide_eq_true (by omega)]
  rfl
theorem eqv_nil (l : List (Bool × Nat)) : PyData.eqv (runsD l) (.list []) = decide (l = []) := by
  cases l with
  | nil => rfl
  | cons a l => rfl
end Bx

-- needs pairs
namespace Bx
open PySem PySem.Spec PyProof.Rows L2
/-- the letters as a text -/
def sgn (l : List Bool) : Str := ⟨(l.map fun b => if b then 88 else 89).toArray⟩
theorem sgn_nil : sgn [] = ("" : Str) := by decide +kernel
theorem sgn_x (l : List Bool) : sgn l ++ ("X" : Str) = sgn (l ++ [true]) := by
  have e : ("X" : Str) = ⟨#[88]⟩ := by decide +kernel
  rw [e]
  show Str.append _ _ = _
  unfold Str.append sgn
  simp
theorem sgn_y (l : List Bool) : sgn l ++ ("Y" : Str) = sgn (l ++ [false]) := by
  have e : ("Y" : Str) = ⟨#[89]⟩ := by decide +kernel
  rw [e]
  show Str.append _ _ = _
  unfold Str.append sgn
  simp
theorem sgn_len (l : List Bool) : (sgn l).length = l.length := by
  show (List.toArray _).size = _
  simp
end Bx

-- needs lists
namespace Bx
open PySem PySem.Spec PyProof.Rows L2
/-- a text n times -/
def rep (z : Str) (n : Nat) : Str := ⟨((List.replicate n z.cps.toList).flatten).toArray⟩
theorem foldl_app : ∀ (n : Nat) (a acc : Array Nat), (List.replicate n a).foldl (· ++ ·) acc = acc ++ ((List.replicate n a.toList).flatten).toArray
  | 0, _, acc => by simp
  | n + 1, a, acc => by
    rw [List.replicate_succ, List.foldl_cons, foldl_app n a, List.replicate_succ, List.flatten_cons]
    apply Array.ext'
    simp
theorem rep_mul (z : Str) (n : Int) : PySem.Txt.mul z n = rep z n.toNat := by
  unfold PySem.Txt.mul
  by_cases h : n < 1
  · rw [if_pos h, show n.toNat = 0 by omega]
    rfl
  · rw [if_neg h]
    by_cases h2 : (n == 1 || z.length == 0) = true
    · rw [if_pos h2]
      rcases Bool.or_eq_true_iff.mp h2 with e | e
      · have e1 : n = 1 := eq_of_beq e
        subst e1
        unfold rep
        simp
      · have e1 : z.length = 0 := eq_of_beq e
        have e2 : z.cps = #[] := Array.eq_empty_of_size_eq_zero e1
        have e3 : ∀ m : Nat, (List.replicate m ([] : List Nat)).flatten = [] := fun m => by induction m with
          | zero => rfl
          | succ m ih => rw [List.replicate_succ, List.flatten_cons, ih]; rfl
        unfold rep
        rw [e2]
        show z = ⟨((List.replicate n.toNat ([] : List Nat)).flatten).toArray⟩
        rw [e3]
        cases z
        simp at e2
        rw [e2]
    · rw [if_neg h2]
      unfold rep
      rw [foldl_app]
      simp
theorem op_mul_str {X : Cx} : OpR X (binaryOp .Mult) (fun x y H Q => ∃ (z : Str) (n : Int), x = .str z ∧ y = .int n ∧ 0 ≤ n ∧ n ≤ 1000000 ∧ z.length * n.toNat ≤ 1000000 ∧ Q (.str (rep z n.toNat)) H) := by
  intro pins s σ H x y v u Q I rx ry h
  obtain ⟨z, n, rfl, rfl, h0, h1, h2, q⟩ := h
  obtain ⟨t, rfl⟩ := rx
  obtain ⟨t', rfl⟩ := ry
  refine PySem.SB.mul ⟨?_, fun c _ => ?_, fun c _ => ?_⟩ fun t2 k => ⟨.str (rep z n.toNat), H, I.tok _, ⟨t2, by rw [rep_mul]⟩, q⟩
  · rw [decide_eq_false (by omega), decide_eq_false (by omega)]
    rfl
  · have e : (z.length : Int) * n ≤ 2 ^ 63 - 1 := by
      have e1 : ((z.length * n.toNat : Nat) : Int) = (z.length : Int) * n := by
        rw [Int.natCast_mul, show ((n.toNat : Nat) : Int) = n by omega]
      have e2 : ((z.length * n.toNat : Nat) : Int) ≤ 1000000 := by omega
      omega
    have := (Int.le_ediv_iff_mul_le (by omega : (0 : Int) < n)).mpr e
    omega
  · unfold Builtin.Str.tooLong
    exact decide_eq_false (by rw [sizeLine_eq]; omega)
end Bx

-- needs signs strmul
namespace Bx
open PySem PySem.Spec PyProof.Rows L2
theorem dm_rest {x y : Nat} (h : 0 < y) (h2 : x > y) : x - (x - 1) / y * y ≤ y := by
  have e : (x - 1) / y * y + (x - 1) % y = x - 1 := by rw [Nat.mul_comm]; exact Nat.div_add_mod _ _
  have m : (x - 1) % y < y := Nat.mod_lt _ h
  omega
/-- the first run's letter -/
theorem R_head {x y : Nat} {r : Bool × Nat} (h : (R x y)[0]? = some r) : 0 < x ∧ 0 < y ∧ x ≠ y ∧ (r.1 = true ↔ x > y) := by
  by_cases c : 0 < x ∧ 0 < y ∧ x ≠ y
  · refine ⟨c.1, c.2.1, c.2.2, ?_⟩
    by_cases c2 : x > y
    · rw [R_x c.2.1 c2] at h
      cases h
      exact ⟨fun _ => c2, fun _ => rfl⟩
    · rw [R_y c.1 (by omega)] at h
      cases h
      exact ⟨fun q => (by cases q), fun q => absurd q c2⟩
  · rw [R_nil c] at h
    cases h
theorem R_alt (x y : Nat) : ∀ (i : Nat) (r s : Bool × Nat), (R x y)[i]? = some r → (R x y)[i + 1]? = some s → r.1 ≠ s.1 := by
  intro i r s h1 h2
  by_cases c : 0 < x ∧ 0 < y ∧ x ≠ y
  · by_cases c2 : x > y
    · have d := dm_lt c.2.1 c2
      rw [R_x c.2.1 c2] at h1 h2
      rw [List.getElem?_cons_succ] at h2
      cases i with
      | zero =>
        cases h1
        have q := R_head h2
        have q2 := dm_rest c.2.1 c2
        intro e
        have := q.2.2.2.mp e.symm
        omega
      | succ i =>
        rw [List.getElem?_cons_succ] at h1
        exact R_alt _ y i r s h1 h2
    · have c3 : y > x := by omega
      have d := dm_lt c.1 c3
      rw [R_y c.1 c3] at h1 h2
      rw [List.getElem?_cons_succ] at h2
      cases i with
      | zero =>
        cases h1
        have q := R_head h2
        have q2 := dm_rest c.1 c3
        intro e
        have e2 : s.1 = false := e.symm
        have : ¬ (x > y - (y - 1) / x * x) := fun z => by
          have := q.2.2.2.mpr z
          rw [e2] at this
          cases this
        omega
      | succ i =>
        rw [List.getElem?_cons_succ] at h1
        exact R_alt x _ i r s h1 h2
  · rw [R_nil c] at h1
    cases h1
termination_by x + y
/-- texts one behind another -/
theorem glue_fold : ∀ (ps : List Str) (acc : Array Nat), ps.foldl (fun acc p => acc ++ (#[] : Array Nat) ++ p.cps) acc = acc ++ ((ps.map fun p => p.cps.toList).flatten).toArray
  | [], acc => by simp
  | p :: ps, acc => by
    rw [List.foldl_cons, glue_fold ps, List.map_cons, List.flatten_cons]
    apply Array.ext'
    simp
theorem join_empty (ps : List Str) : PySem.Txt.join (⟨#[]⟩ : Str) ps = ⟨((ps.map fun p => p.cps.toList).flatten).toArray⟩ := by
  show (⟨(ps.drop 1).foldl (fun acc p => acc ++ (#[] : Array Nat) ++ p.cps) (ps.headD Str.empty).cps⟩ : Str) = _
  rw [glue_fold]
  cases ps with
  | nil => rfl
  | cons p ps =>
    congr 1
    apply Array.ext'
    simp
theorem rep_let (c : Bool) (n : Nat) : (rep (letS c) n).cps.toList = (List.replicate n c).map fun b => if b then 88 else 89 := by
  have e : (letS c).cps.toList = [if c then 88 else 89] := by
    cases c
    · decide +kernel
    · decide +kernel
  unfold rep
  rw [e]
  show (List.replicate n [if c = true then 88 else 89]).flatten = _
  induction n with
  | zero => rfl
  | succ n ih => rw [List.replicate_succ, List.flatten_cons, ih, List.replicate_succ]; rfl
theorem join_runs (l : List (Bool × Nat)) : PySem.Txt.join (⟨#[]⟩ : Str) (l.map fun r => rep (letS r.1) r.2) = sgn (spell l) := by
  rw [join_empty]
  show _ = (⟨_⟩ : Str)
  congr 2
  induction l with
  | nil => rfl
  | cons r l ih =>
    rw [List.map_cons, List.map_cons, List.flatten_cons, ih, rep_let]
    show _ = (List.replicate r.2 r.1 ++ spell l).map _
    rw [List.map_append]
theorem rep_len (c : Bool) (n : Nat) : (rep (letS c) n).length = n := by
  have e := congrArg List.length (rep_let c n)
  rw [List.length_map, List.length_replicate] at e
  exact e
theorem rep_lens (l : List (Bool × Nat)) : ((l.map fun r => rep (letS r.1) r.2).map (·.length)).sum = (spell l).length := by
  rw [spell_len, List.map_map]
  congr 1
  apply List.map_congr_left
  intro r _
  exact rep_len r.1 r.2
theorem lets_len (c : Bool) : (letS c).length = 1 := by
  cases c
  · decide +kernel
  · decide +kernel
/-- one run's count is among the letters -/
theorem run_le {l : List (Bool × Nat)} {i : Nat} {r : Bool × Nat} (h : l[i]? = some r) : r.2 ≤ (spell l).length := by
  rw [spell_len]
  have := List.mem_of_getElem? h
  induction l generalizing i with
  | nil => cases this
  | cons a l ih =>
    rw [List.map_cons, List.sum_cons]
    rcases List.mem_cons.mp this with e | e
    · rw [e]; omega
    · obtain ⟨j, hj⟩ := List.getElem?_of_mem e
      have := ih hj e
      omega
end Bx

-- needs pairs
namespace Bx
open PySem PySem.Spec PyProof.Rows L2
def bot (x y : Nat) : Str := if y = 0 then "flat" else if x = 0 then "steep" else "even"
end Bx

-- needs spell bottoms
namespace Bx
open PySem PySem.Spec PyProof.Rows L2
/-- the pair at the bottom of a path -/
def fin (x y : Nat) : Nat × Nat :=
  if h : 0 < x ∧ 0 < y ∧ x ≠ y then
    if x > y then fin (x - (x - 1) / y * y) y else fin x (y - (y - 1) / x * x)
  else (x, y)
termination_by x + y
decreasing_by
  · have := (dm_lt h.2.1 (by assumption)).1
    omega
  · have := (dm_lt h.1 (show y > x by omega)).1
    omega
theorem fin_nil {x y : Nat} (h : ¬ (0 < x ∧ 0 < y ∧ x ≠ y)) : fin x y = (x, y) := by rw [fin, dif_neg h]
theorem fin_x {x y : Nat} (h : 0 < y) (h2 : x > y) : fin x y = fin (x - (x - 1) / y * y) y := by rw [fin, dif_pos ⟨by omega, h, by omega⟩, if_pos h2]
theorem fin_y {x y : Nat} (h : 0 < x) (h2 : y > x) : fin x y = fin x (y - (y - 1) / x * x) := by rw [fin, dif_pos ⟨h, by omega, by omega⟩, if_neg (by omega)]
/-- letters put on, from the bottom up -/
def put1 (p : Nat × Nat) (r : Bool × Nat) : Nat × Nat := if r.1 then (p.1 + r.2 * p.2, p.2) else (p.1, p.2 + r.2 * p.1)
def grow (p : Nat × Nat) (l : List (Bool × Nat)) : Nat × Nat := l.foldl put1 p
theorem grow_app (p : Nat × Nat) (l r : List (Bool × Nat)) : grow p (l ++ r) = grow (grow p l) r := List.foldl_append
theorem grow_R (x y : Nat) : grow (fin x y) (R x y).reverse = (x, y) := by
  by_cases c : 0 < x ∧ 0 < y ∧ x ≠ y
  · by_cases c2 : x > y
    · have d := dm_lt c.2.1 c2
      rw [R_x c.2.1 c2, fin_x c.2.1 c2, List.reverse_cons, grow_app, grow_R _ y]
      show (x - (x - 1) / y * y + (x - 1) / y * y, y) = (x, y)
      rw [Nat.sub_add_cancel (dm_le x y)]
    · have c3 : y > x := by omega
      have d := dm_lt c.1 c3
      rw [R_y c.1 c3, fin_y c.1 c3, List.reverse_cons, grow_app, grow_R x _]
      show (x, y - (y - 1) / x * x + (y - 1) / x * x) = (x, y)
      rw [Nat.sub_add_cancel (dm_le y x)]
  · rw [R_nil c, fin_nil c]
    rfl
termination_by x + y
theorem gcd_dm (x y k : Nat) (h : k * y ≤ x) : Nat.gcd (x - k * y) y = Nat.gcd x y := by
  have e : x = (x - k * y) + k * y := by omega
  conv => rhs; rw [e, Nat.add_comm, Nat.mul_comm, Nat.gcd_comm, Nat.gcd_mul_left_add_right]
  rw [Nat.gcd_comm, Nat.mul_comm k y]
/-- the bottom by the kind and the divisor -/
def base (k : Str) (g : Nat) : Nat × Nat := if k = "flat" then (g, 0) else if k = "steep" then (0, g) else (g, g)
theorem fin_pos {x y : Nat} (hx : 0 < x) (hy : 0 < y) : fin x y = (Nat.gcd x y, Nat.gcd x y) := by
  by_cases c : x ≠ y
  · by_cases c2 : x > y
    · have d := dm_lt hy c2
      rw [fin_x hy c2, fin_pos d.2 hy, gcd_dm x y _ (dm_le x y)]
    · have c3 : y > x := by omega
      have d := dm_lt hx c3
      rw [fin_y hx c3, fin_pos hx d.2, Nat.gcd_comm, gcd_dm y x _ (dm_le y x), Nat.gcd_comm]
  · have e : x = y := by omega
    subst e
    rw [fin_nil (by omega), Nat.gcd_self]
termination_by x + y
theorem fin_base {x y : Nat} (h : ¬ (x = 0 ∧ y = 0)) : fin x y = base (bot x y) (Nat.gcd x y) := by
  unfold bot base
  by_cases hy : y = 0
  · subst hy
    rw [if_pos rfl, if_pos rfl, fin_nil (by omega), Nat.gcd_zero_right]
  · rw [if_neg hy]
    by_cases hx : x = 0
    · subst hx
      rw [if_pos rfl, if_neg (by decide +kernel), if_pos rfl, fin_nil (by omega), Nat.gcd_zero_left]
    · rw [if_neg hx, if_neg (by decide +kernel), if_neg (by decide +kernel), fin_pos (by omega) (by omega)]
theorem R_flat {x y : Nat} (h : bot x y ≠ "even") : R x y = [] := by
  refine R_nil fun c => h ?_
  unfold bot
  rw [if_neg (by omega), if_neg (by omega)]
theorem R_pos' (x y : Nat) : ∀ r ∈ R x y, 0 < r.2 := by
  by_cases c : 0 < x ∧ 0 < y ∧ x ≠ y
  · by_cases c2 : x > y
    · have d := dm_lt c.2.1 c2
      rw [R_x c.2.1 c2]
      intro r hr
      rcases List.mem_cons.mp hr with e | e
      · rw [e]
        exact Nat.div_pos (by omega) c.2.1
      · exact R_pos' _ y r e
    · have c3 : y > x := by omega
      have d := dm_lt c.1 c3
      rw [R_y c.1 c3]
      intro r hr
      rcases List.mem_cons.mp hr with e | e
      · rw [e]
        exact Nat.div_pos (by omega) c.1
      · exact R_pos' x _ r e
  · rw [R_nil c]
    intro r hr
    cases hr
termination_by x + y
/-! ### moves -/
/-- add or take, x or y, how often -/
abbrev Mv := Bool × Bool × Nat
def mvD (m : Mv) : PyData := .tuple [.str (if m.1 then "add" else "take"), .str (if m.2.1 then "x" else "y"), .int (m.2.2 : Int)]
/-- one move, without a negative number, below a bound -/
def go1 (B : Nat) (p : Nat × Nat) (m : Mv) : Option (Nat × Nat) :=
  let q : Option (Nat × Nat) := match m with
    | (true, true, n) => some (p.1 + n * p.2, p.2)
    | (true, false, n) => some (p.1, p.2 + n * p.1)
    | (false, true, n) => if n * p.2 ≤ p.1 then some (p.1 - n * p.2, p.2) else none
    | (false, false, n) => if n * p.1 ≤ p.2 then some (p.1, p.2 - n * p.1) else none
  q.bind fun q => if 0 < m.2.2 ∧ q.1 < B ∧ q.2 < B then some q else none
def leads (B : Nat) : Nat × Nat → List Mv → Option (Nat × Nat)
  | p, [] => some p
  | p, m :: ms => (go1 B p m).bind fun q => leads B q ms
theorem leads_app (B : Nat) : ∀ (p : Nat × Nat) (l r : List Mv), leads B p (l ++ r) = (leads B p l).bind fun q => leads B q r
  | p, [], r => rfl
  | p, m :: l, r => by
    show (go1 B p m).bind (fun q => leads B q (l ++ r)) = ((go1 B p m).bind fun q => leads B q l).bind _
    cases go1 B p m with
    | none => rfl
    | some q => exact leads_app B q l r
def takes (l : List (Bool × Nat)) : List Mv := l.map fun r => (false, r.1, r.2)
def adds (l : List (Bool × Nat)) : List Mv := l.map fun r => (true, r.1, r.2)
theorem put1_le (p : Nat × Nat) (r : Bool × Nat) : p.1 ≤ (put1 p r).1 ∧ p.2 ≤ (put1 p r).2 := by
  unfold put1
  cases r.1
  · exact ⟨Nat.le_refl _, Nat.le_add_right _ _⟩
  · exact ⟨Nat.le_add_right _ _, Nat.le_refl _⟩
theorem grow_le : ∀ (l : List (Bool × Nat)) (p : Nat × Nat), p.1 ≤ (grow p l).1 ∧ p.2 ≤ (grow p l).2
  | [], p => ⟨Nat.le_refl _, Nat.le_refl _⟩
  | r :: l, p => by
    have h1 := put1_le p r
    have h2 := grow_le l (put1 p r)
    exact ⟨Nat.le_trans h1.1 h2.1, Nat.le_trans h1.2 h2.2⟩
theorem leads_adds (B : Nat) : ∀ (l : List (Bool × Nat)) (p : Nat × Nat), (∀ r ∈ l, 0 < r.2) → (grow p l).1 < B → (grow p l).2 < B → leads B p (adds l) = some (grow p l)
  | [], p, _, _, _ => rfl
  | (c, n) :: l, p, h, h1, h2 => by
    have hl := grow_le l (put1 p (c, n))
    have e : go1 B p (true, c, n) = some (put1 p (c, n)) := by
      have hn := h (c, n) List.mem_cons_self
      have b1 : (put1 p (c, n)).1 < B := Nat.lt_of_le_of_lt hl.1 h1
      have b2 : (put1 p (c, n)).2 < B := Nat.lt_of_le_of_lt hl.2 h2
      cases c
      · show (if 0 < n ∧ p.1 < B ∧ p.2 + n * p.1 < B then some (p.1, p.2 + n * p.1) else none) = _
        rw [if_pos ⟨hn, b1, b2⟩]
        rfl
      · show (if 0 < n ∧ p.1 + n * p.2 < B ∧ p.2 < B then some (p.1 + n * p.2, p.2) else none) = _
        rw [if_pos ⟨hn, b1, b2⟩]
        rfl
    show (go1 B p (true, c, n)).bind _ = _
    rw [e, Option.bind_some]
    exact leads_adds B l _ (fun r hr => h r (List.mem_cons_of_mem _ hr)) h1 h2
/-- what was put on is taken off from the top -/
theorem leads_takes (B : Nat) (p : Nat × Nat) : ∀ (l : List (Bool × Nat)), (∀ r ∈ l, 0 < r.2) → (grow p l.reverse).1 < B → (grow p l.reverse).2 < B → leads B (grow p l.reverse) (takes l) = some p
  | [], _, _, _ => rfl
  | (c, n) :: l, h, h1, h2 => by
    rw [List.reverse_cons, grow_app] at h1 h2 ⊢
    have hl := put1_le (grow p l.reverse) (c, n)
    have b1 : (grow p l.reverse).1 < B := Nat.lt_of_le_of_lt hl.1 h1
    have b2 : (grow p l.reverse).2 < B := Nat.lt_of_le_of_lt hl.2 h2
    have hn := h (c, n) List.mem_cons_self
    have e : go1 B (grow (grow p l.reverse) [(c, n)]) (false, c, n) = some (grow p l.reverse) := by
      generalize grow p l.reverse = q at b1 b2
      cases c
      · show (if n * q.1 ≤ q.2 + n * q.1 then some (q.1, q.2 + n * q.1 - n * q.1) else none).bind _ = _
        rw [if_pos (Nat.le_add_left _ _), Nat.add_sub_cancel, Option.bind_some, if_pos ⟨hn, b1, b2⟩]
      · show (if n * q.2 ≤ q.1 + n * q.2 then some (q.1 + n * q.2 - n * q.2, q.2) else none).bind _ = _
        rw [if_pos (Nat.le_add_left _ _), Nat.add_sub_cancel, Option.bind_some, if_pos ⟨hn, b1, b2⟩]
    show (go1 B _ (false, c, n)).bind _ = _
    rw [e, Option.bind_some]
    exact leads_takes B p l (fun r hr => h r (List.mem_cons_of_mem _ hr)) b1 b2
/-! ### without the common beginning -/
def restOf : List (Bool × Nat) → List (Bool × Nat) → List (Bool × Nat) × List (Bool × Nat)
  | a :: l, b :: r =>
    if a = b then restOf l r
    else if a.1 ≠ b.1 then (a :: l, b :: r)
    else ((if a.2 > min a.2 b.2 then [(a.1, a.2 - min a.2 b.2)] else []) ++ l, (if b.2 > min a.2 b.2 then [(a.1, b.2 - min a.2 b.2)] else []) ++ r)
  | l, r => (l, r)
theorem put1_put1 (p : Nat × Nat) (c : Bool) (n m : Nat) : put1 (put1 p (c, n)) (c, m) = put1 p (c, n + m) := by
  cases c
  · show (p.1, p.2 + n * p.1 + m * p.1) = (p.1, p.2 + (n + m) * p.1)
    rw [Nat.add_mul, Nat.add_assoc]
  · show (p.1 + n * p.2 + m * p.2, p.2) = (p.1 + (n + m) * p.2, p.2)
    rw [Nat.add_mul, Nat.add_assoc]
theorem restOf_ok : ∀ (l r : List (Bool × Nat)), ∃ c : List (Bool × Nat), (∀ p, grow p l = grow (grow p c) (restOf l r).1) ∧ (∀ p, grow p r = grow (grow p c) (restOf l r).2)
  | [], r => ⟨[], by intro p; unfold restOf; rfl, by intro p; unfold restOf; rfl⟩
  | a :: l, [] => ⟨[], by intro p; unfold restOf; rfl, by intro p; unfold restOf; rfl⟩
  | a :: l, b :: r => by
    by_cases e : a = b
    · subst e
      obtain ⟨c, h1, h2⟩ := restOf_ok l r
      refine ⟨a :: c, fun p => ?_, fun p => ?_⟩
      · rw [restOf, if_pos rfl]
        exact h1 (put1 p a)
      · rw [restOf, if_pos rfl]
        exact h2 (put1 p a)
    · by_cases e2 : a.1 ≠ b.1
      · refine ⟨[], fun p => ?_, fun p => ?_⟩
        · rw [restOf, if_neg e, if_pos e2]; rfl
        · rw [restOf, if_neg e, if_pos e2]; rfl
      · obtain ⟨c, n⟩ := a
        obtain ⟨c', m⟩ := b
        have ec : c = c' := by
          cases Decidable.em (c = c') with
          | inl h => exact h
          | inr h => exact absurd h e2
        subst ec
        have part : ∀ (k s : Nat) (t : List (Bool × Nat)) (p : Nat × Nat), s ≤ k → grow p ((c, k) :: t) = grow (grow p [(c, s)]) ((if k > s then [(c, k - s)] else []) ++ t) := fun k s t p hk => by
          by_cases z : k > s
          · rw [if_pos z]
            show grow (put1 p (c, k)) t = grow (put1 (put1 p (c, s)) (c, k - s)) t
            rw [put1_put1, Nat.add_sub_cancel' hk]
          · rw [if_neg z, show s = k by omega]
            rfl
        refine ⟨[(c, min n m)], fun p => ?_, fun p => ?_⟩
        · rw [restOf, if_neg e, if_neg (fun z => z rfl)]
          exact part n (min n m) l p (Nat.min_le_left _ _)
        · rw [restOf, if_neg e, if_neg (fun z => z rfl)]
          exact part m (min n m) r p (Nat.min_le_right _ _)
def cnt (l : List (Bool × Nat)) : Nat := (l.map (·.2)).sum
theorem cnt_app (l r : List (Bool × Nat)) : cnt (l ++ r) = cnt l + cnt r := by
  unfold cnt
  rw [List.map_append, List.sum_append]
/-- what is left: positive counts, not more of them, no more runs -/
theorem restOf_pos : ∀ (l r : List (Bool × Nat)), (∀ x ∈ l, 0 < x.2) → (∀ x ∈ r, 0 < x.2) →
    (∀ x ∈ (restOf l r).1, 0 < x.2) ∧ (∀ x ∈ (restOf l r).2, 0 < x.2) ∧ cnt (restOf l r).1 ≤ cnt l ∧ cnt (restOf l r).2 ≤ cnt r ∧ (restOf l r).1.length ≤ l.length ∧ (restOf l r).2.length ≤ r.length
  | [], r, h1, h2 => by unfold restOf; exact ⟨h1, h2, Nat.le_refl _, Nat.le_refl _, Nat.le_refl _, Nat.le_refl _⟩
  | a :: l, [], h1, h2 => by unfold restOf; exact ⟨h1, h2, Nat.le_refl _, Nat.le_refl _, Nat.le_refl _, Nat.le_refl _⟩
  | a :: l, b :: r, h1, h2 => by
    by_cases e : a = b
    · rw [restOf, if_pos e]
      obtain ⟨q1, q2, q3, q4, q5, q6⟩ := restOf_pos l r (fun x hx => h1 x (List.mem_cons_of_mem _ hx)) (fun x hx => h2 x (List.mem_cons_of_mem _ hx))
      refine ⟨q1, q2, ?_, ?_, by rw [List.length_cons]; omega, by rw [List.length_cons]; omega⟩
      · show _ ≤ ((a :: l).map (·.2)).sum
        rw [List.map_cons, List.sum_cons]
        exact Nat.le_trans q3 (Nat.le_add_left _ _)
      · show _ ≤ ((b :: r).map (·.2)).sum
        rw [List.map_cons, List.sum_cons]
        exact Nat.le_trans q4 (Nat.le_add_left _ _)
    · by_cases e2 : a.1 ≠ b.1
      · rw [restOf, if_neg e, if_pos e2]
        exact ⟨h1, h2, Nat.le_refl _, Nat.le_refl _, Nat.le_refl _, Nat.le_refl _⟩
      · rw [restOf, if_neg e, if_neg e2]
        have part : ∀ (k s : Nat) (c d : Bool) (t : List (Bool × Nat)), (∀ x ∈ t, 0 < x.2) → (∀ x ∈ (if k > s then [(c, k - s)] else []) ++ t, 0 < x.2) ∧ cnt ((if k > s then [(c, k - s)] else []) ++ t) ≤ cnt ((d, k) :: t) ∧ ((if k > s then [(c, k - s)] else []) ++ t).length ≤ ((d, k) :: t).length := fun k s c d t ht => by
          have ec : cnt ((d, k) :: t) = k + cnt t := by
            unfold cnt
            rw [List.map_cons, List.sum_cons]
          by_cases z : k > s
          · rw [if_pos z]
            refine ⟨fun x hx => ?_, ?_, ?_⟩
            · rcases List.mem_append.mp hx with q | q
              · rw [List.mem_singleton.mp q]
                show 0 < k - s
                omega
              · exact ht x q
            · rw [cnt_app, ec]
              show (k - s + 0) + _ ≤ _
              omega
            · simp
          · rw [if_neg z]
            refine ⟨fun x hx => ht x hx, ?_, ?_⟩
            · rw [ec]
              exact Nat.le_add_left _ _
            · simp
        have p1 := part a.2 (min a.2 b.2) a.1 a.1 l fun x hx => h1 x (List.mem_cons_of_mem _ hx)
        have p2 := part b.2 (min a.2 b.2) a.1 b.1 r fun x hx => h2 x (List.mem_cons_of_mem _ hx)
        exact ⟨p1.1, p2.1, p1.2.1, p2.2.1, p1.2.2, p2.2.2⟩
/-! ### neighbours put together -/
def keyOf (m : Mv) : Bool × Bool := (m.1, m.2.1)
def mstep (f : List Mv) (m : Mv) : List Mv := match f.getLast? with
  | some l => if keyOf l = keyOf m then f.dropLast ++ [(m.1, m.2.1, m.2.2 + l.2.2)] else f ++ [m]
  | none => f ++ [m]
def merge (ms : List Mv) : List Mv := ms.foldl mstep []
theorem last_split {f : List Mv} {l : Mv} (h : f.getLast? = some l) : f = f.dropLast ++ [l] := by
  have hne : f ≠ [] := fun e => by rw [e] at h; cases h
  rw [List.getLast?_eq_some_getLast hne] at h
  have e := Option.some.inj h
  rw [← e]
  exact (List.dropLast_concat_getLast hne).symm
theorem go_two {B : Nat} {p q r : Nat × Nat} {w a : Bool} {n m : Nat} (h1 : go1 B p (w, a, n) = some q) (h2 : go1 B q (w, a, m) = some r) : go1 B p (w, a, m + n) = some r := by
  have un : ∀ {p q : Nat × Nat} {m : Mv}, go1 B p m = some q → 0 < m.2.2 ∧ q.1 < B ∧ q.2 < B ∧ (match m with
    | (true, true, n) => q = (p.1 + n * p.2, p.2)
    | (true, false, n) => q = (p.1, p.2 + n * p.1)
    | (false, true, n) => n * p.2 ≤ p.1 ∧ q = (p.1 - n * p.2, p.2)
    | (false, false, n) => n * p.1 ≤ p.2 ∧ q = (p.1, p.2 - n * p.1)) := fun {p q m} h => by
    unfold go1 at h
    obtain ⟨z, hz, h⟩ := Option.bind_eq_some_iff.mp h
    by_cases c : 0 < m.2.2 ∧ z.1 < B ∧ z.2 < B
    · rw [if_pos c] at h
      cases h
      refine ⟨c.1, c.2.1, c.2.2, ?_⟩
      match m, hz with
      | (true, true, n), hz => exact (Option.some.inj hz).symm
      | (true, false, n), hz => exact (Option.some.inj hz).symm
      | (false, true, n), hz =>
        by_cases g : n * p.2 ≤ p.1
        · simp only [if_pos g] at hz
          exact ⟨g, (Option.some.inj hz).symm⟩
        · simp only [if_neg g] at hz
          cases hz
      | (false, false, n), hz =>
        by_cases g : n * p.1 ≤ p.2
        · simp only [if_pos g] at hz
          exact ⟨g, (Option.some.inj hz).symm⟩
        · simp only [if_neg g] at hz
          cases hz
    · rw [if_neg c] at h
      cases h
  have a1 := un h1
  have a2 := un h2
  have e : ∀ k : Nat, (m + n) * k = n * k + m * k := fun k => by rw [Nat.add_mul, Nat.add_comm]
  obtain ⟨b1, b2, b3, b4⟩ := a2
  have hpos : 0 < m + n := by have := a1.1; show 0 < m + n; have : 0 < n := this; omega
  match w, a with
  | true, true =>
    have q1 := a1.2.2.2
    have q2 := b4
    simp only at q1 q2
    subst q1
    have ee : (p.1 + (m + n) * p.2, p.2) = r := by rw [q2, e, Nat.add_assoc]
    show (if 0 < m + n ∧ (p.1 + (m + n) * p.2, p.2).1 < B ∧ (p.1 + (m + n) * p.2, p.2).2 < B then some (p.1 + (m + n) * p.2, p.2) else none) = _
    rw [ee, if_pos ⟨hpos, b2, b3⟩]
  | true, false =>
    have q1 := a1.2.2.2
    have q2 := b4
    simp only at q1 q2
    subst q1
    have ee : (p.1, p.2 + (m + n) * p.1) = r := by rw [q2, e, Nat.add_assoc]
    show (if 0 < m + n ∧ (p.1, p.2 + (m + n) * p.1).1 < B ∧ (p.1, p.2 + (m + n) * p.1).2 < B then some (p.1, p.2 + (m + n) * p.1) else none) = _
    rw [ee, if_pos ⟨hpos, b2, b3⟩]
  | false, true =>
    have q1 := a1.2.2.2
    have q2 := b4
    simp only at q1 q2
    obtain ⟨g1, q1⟩ := q1
    subst q1
    obtain ⟨g2, q2⟩ := q2
    have g3 : (m + n) * p.2 ≤ p.1 := by
      rw [e]
      have : m * p.2 ≤ p.1 - n * p.2 := g2
      omega
    show (if (m + n) * p.2 ≤ p.1 then some (p.1 - (m + n) * p.2, p.2) else none).bind _ = _
    have ee : (p.1 - (m + n) * p.2, p.2) = r := by
      rw [q2, e]
      show (_, _) = (p.1 - n * p.2 - m * p.2, _)
      rw [Nat.sub_sub]
    rw [if_pos g3, Option.bind_some, ee, if_pos ⟨hpos, b2, b3⟩]
  | false, false =>
    have q1 := a1.2.2.2
    have q2 := b4
    simp only at q1 q2
    obtain ⟨g1, q1⟩ := q1
    subst q1
    obtain ⟨g2, q2⟩ := q2
    have g3 : (m + n) * p.1 ≤ p.2 := by
      rw [e]
      have : m * p.1 ≤ p.2 - n * p.1 := g2
      omega
    show (if (m + n) * p.1 ≤ p.2 then some (p.1, p.2 - (m + n) * p.1) else none).bind _ = _
    have ee : (p.1, p.2 - (m + n) * p.1) = r := by
      rw [q2, e]
      show (_, _) = (_, p.2 - n * p.1 - m * p.1)
      rw [Nat.sub_sub]
    rw [if_pos g3, Option.bind_some, ee, if_pos ⟨hpos, b2, b3⟩]
theorem mstep_leads {B : Nat} {p q : Nat × Nat} {f : List Mv} {m : Mv} (h : leads B p (f ++ [m]) = some q) : leads B p (mstep f m) = some q := by
  unfold mstep
  cases e : f.getLast? with
  | none => exact h
  | some l =>
    show leads B p (if keyOf l = keyOf m then _ else _) = _
    by_cases c : keyOf l = keyOf m
    · rw [if_pos c]
      rw [last_split e, List.append_assoc, leads_app] at h
      rw [leads_app]
      obtain ⟨z, hz, h⟩ := Option.bind_eq_some_iff.mp h
      rw [hz, Option.bind_some]
      obtain ⟨w, a, n⟩ := l
      obtain ⟨w', a', n'⟩ := m
      have c1 : w = w' := (Prod.mk.inj c).1
      have c2 : a = a' := (Prod.mk.inj c).2
      subst c1 c2
      have h : (go1 B z (w, a, n)).bind (fun q => (go1 B q (w, a, n')).bind fun q => some q) = some q := h
      obtain ⟨z2, hz2, h⟩ := Option.bind_eq_some_iff.mp h
      obtain ⟨z3, hz3, h⟩ := Option.bind_eq_some_iff.mp h
      cases h
      show (go1 B z (w, a, n' + n)).bind (fun q => some q) = some q
      rw [go_two hz2 hz3]
      rfl
    · rw [if_neg c]
      exact h
theorem fold_leads {B : Nat} {p q : Nat × Nat} : ∀ (ms f : List Mv), leads B p (f ++ ms) = some q → leads B p (ms.foldl mstep f) = some q
  | [], f, h => by rw [List.append_nil] at h; exact h
  | m :: ms, f, h => by
    rw [List.foldl_cons]
    refine fold_leads ms (mstep f m) ?_
    rw [leads_app]
    have h2 : leads B p ((f ++ [m]) ++ ms) = some q := by rw [List.append_assoc]; exact h
    rw [leads_app] at h2
    obtain ⟨z, hz, h2⟩ := Option.bind_eq_some_iff.mp h2
    rw [mstep_leads hz, Option.bind_some]
    exact h2
theorem merge_leads {B : Nat} {p q : Nat × Nat} {ms : List Mv} (h : leads B p ms = some q) : leads B p (merge ms) = some q := fold_leads ms [] h
/-- neighbours differ -/
def Alt (f : List Mv) : Prop := ∀ (i : Nat) (a b : Mv), f[i]? = some a → f[i + 1]? = some b → keyOf a ≠ keyOf b
theorem Alt.snoc {f : List Mv} {m : Mv} (h : Alt f) (hl : ∀ l, f.getLast? = some l → keyOf l ≠ keyOf m) : Alt (f ++ [m]) := by
  intro i a b ha hb
  by_cases c : i + 1 < f.length
  · rw [List.getElem?_append_left (by omega)] at ha
    rw [List.getElem?_append_left c] at hb
    exact h i a b ha hb
  · have hlt : i + 1 < (f ++ [m]).length := (List.getElem?_eq_some_iff.mp hb).1
    rw [List.length_append, List.length_singleton] at hlt
    have e : i + 1 = f.length := by omega
    rw [e, List.getElem?_concat_length] at hb
    rw [List.getElem?_append_left (by omega)] at ha
    cases hb
    refine hl a ?_
    rw [List.getLast?_eq_getElem?, ← e, Nat.add_sub_cancel]
    exact ha
theorem Alt.key {f : List Mv} {m m' : Mv} (h : Alt (f ++ [m])) (hk : keyOf m' = keyOf m) : Alt (f ++ [m']) := by
  refine Alt.snoc (fun i a b ha hb => h i a b ?_ ?_) fun l hl => ?_
  · rw [List.getElem?_append_left (List.getElem?_eq_some_iff.mp ha).1]
    exact ha
  · rw [List.getElem?_append_left (List.getElem?_eq_some_iff.mp hb).1]
    exact hb
  · rw [hk]
    have hne : f ≠ [] := fun e => by rw [e] at hl; cases hl
    have hp : 0 < f.length := List.length_pos_iff.mpr hne
    rw [List.getLast?_eq_getElem?] at hl
    refine h (f.length - 1) l m ?_ ?_
    · rw [List.getElem?_append_left (by omega)]
      exact hl
    · rw [Nat.sub_add_cancel hp, List.getElem?_concat_length]
theorem mstep_alt {f : List Mv} {m : Mv} (h : Alt f) : Alt (mstep f m) := by
  unfold mstep
  cases e : f.getLast? with
  | none => exact Alt.snoc h fun l hl => by rw [e] at hl; cases hl
  | some l =>
    show Alt (if keyOf l = keyOf m then _ else _)
    by_cases c : keyOf l = keyOf m
    · rw [if_pos c]
      rw [last_split e] at h
      exact Alt.key h c.symm
    · rw [if_neg c]
      exact Alt.snoc h fun l' hl => by rw [e] at hl; cases hl; exact c
theorem fold_alt : ∀ (ms f : List Mv), Alt f → Alt (ms.foldl mstep f)
  | [], _, h => h
  | m :: ms, f, h => fold_alt ms (mstep f m) (mstep_alt h)
theorem merge_alt (ms : List Mv) : Alt (merge ms) := fold_alt ms [] fun i a b ha _ => by cases ha
def mcnt (f : List Mv) : Nat := (f.map (·.2.2)).sum
theorem mcnt_app (f g : List Mv) : mcnt (f ++ g) = mcnt f + mcnt g := by
  unfold mcnt
  rw [List.map_append, List.sum_append]
theorem mcnt_one (m : Mv) : mcnt [m] = m.2.2 := by
  unfold mcnt
  simp
theorem mstep_cnt (f : List Mv) (m : Mv) : mcnt (mstep f m) = mcnt f + m.2.2 := by
  unfold mstep
  cases e : f.getLast? with
  | none => show mcnt (f ++ [m]) = _; rw [mcnt_app, mcnt_one]
  | some l =>
    show mcnt (if keyOf l = keyOf m then _ else _) = _
    by_cases c : keyOf l = keyOf m
    · rw [if_pos c, mcnt_app, mcnt_one]
      conv => rhs; rw [last_split e, mcnt_app, mcnt_one]
      show _ + (m.2.2 + l.2.2) = _
      omega
    · rw [if_neg c, mcnt_app, mcnt_one]
theorem fold_cnt : ∀ (ms f : List Mv), mcnt (ms.foldl mstep f) = mcnt f + mcnt ms
  | [], f => rfl
  | m :: ms, f => by
    rw [List.foldl_cons, fold_cnt ms, mstep_cnt]
    have : mcnt (m :: ms) = m.2.2 + mcnt ms := by unfold mcnt; rw [List.map_cons, List.sum_cons]
    omega
theorem mstep_len (f : List Mv) (m : Mv) : (mstep f m).length ≤ f.length + 1 := by
  unfold mstep
  cases e : f.getLast? with
  | none => show (f ++ [m]).length ≤ _; rw [List.length_append]; exact Nat.le_refl _
  | some l =>
    show (if keyOf l = keyOf m then _ else _ : List Mv).length ≤ _
    by_cases c : keyOf l = keyOf m
    · rw [if_pos c, List.length_append, List.length_dropLast]
      show f.length - 1 + 1 ≤ f.length + 1
      omega
    · rw [if_neg c, List.length_append]
      exact Nat.le_refl _
theorem fold_len : ∀ (ms f : List Mv), (ms.foldl mstep f).length ≤ f.length + ms.length
  | [], f => Nat.le_refl _
  | m :: ms, f => by
    rw [List.foldl_cons, List.length_cons]
    have h1 := fold_len ms (mstep f m)
    have h2 := mstep_len f m
    omega
theorem cnt_le {f : List Mv} {m : Mv} (h : m ∈ f) : m.2.2 ≤ mcnt f := by
  induction f with
  | nil => cases h
  | cons a f ih =>
    have e : mcnt (a :: f) = a.2.2 + mcnt f := by unfold mcnt; rw [List.map_cons, List.sum_cons]
    rcases List.mem_cons.mp h with q | q
    · rw [q, e]; omega
    · have := ih q
      omega
/-! ### the way -/
def wayL (x y u w : Nat) : List (Bool × Nat) × List (Bool × Nat) := if bot x y = bot u w then restOf (R x y).reverse (R u w).reverse else ((R x y).reverse, (R u w).reverse)
def wayUp (s e : Str) : List Mv := if s ≠ e ∧ s ≠ "even" then [(true, decide (s ≠ "flat"), 1)] else []
def wayDown (s e : Str) : List Mv := if s ≠ e ∧ e ≠ "even" then [(false, decide (e ≠ "flat"), 1)] else []
def wayRaw (x y u w : Nat) : List Mv := takes (wayL x y u w).1.reverse ++ wayUp (bot x y) (bot u w) ++ wayDown (bot x y) (bot u w) ++ adds (wayL x y u w).2
def wayM (x y u w : Nat) : List Mv := merge (wayRaw x y u w)
end Bx
namespace Bx
open PySem PySem.Spec PyProof.Rows L2
theorem bot_cases (x y : Nat) : bot x y = "even" ∨ bot x y = "flat" ∨ bot x y = "steep" := by
  unfold bot
  by_cases hy : y = 0
  · rw [if_pos hy]; exact .inr (.inl rfl)
  · rw [if_neg hy]
    by_cases hx : x = 0
    · rw [if_pos hx]; exact .inr (.inr rfl)
    · rw [if_neg hx]; exact .inl rfl
theorem ne_ef : ("even" : Str) ≠ "flat" := by decide +kernel
theorem ne_es : ("even" : Str) ≠ "steep" := by decide +kernel
theorem ne_fs : ("flat" : Str) ≠ "steep" := by decide +kernel
theorem base_flat (g : Nat) : base "flat" g = (g, 0) := if_pos rfl
theorem base_steep (g : Nat) : base "steep" g = (0, g) := by
  unfold base
  rw [if_neg ne_fs.symm, if_pos rfl]
theorem base_even (g : Nat) : base "even" g = (g, g) := by
  unfold base
  rw [if_neg ne_ef, if_neg ne_es]
theorem go_up {B g : Nat} {s e : Str} (hs : s = "even" ∨ s = "flat" ∨ s = "steep") (hne : s ≠ e) (h0 : g < B) : leads B (base s g) (wayUp s e) = some (g, g) := by
  unfold wayUp
  rcases hs with rfl | rfl | rfl
  · rw [if_neg (fun z => z.2 rfl), base_even]; rfl
  · rw [if_pos ⟨hne, ne_ef.symm⟩, base_flat, decide_eq_false (fun z => z rfl)]
    show (go1 B (g, 0) (true, false, 1)).bind (fun q => some q) = _
    have e1 : go1 B (g, 0) (true, false, 1) = some (g, 0 + 1 * g) := by
      show (if 0 < 1 ∧ g < B ∧ 0 + 1 * g < B then some (g, 0 + 1 * g) else none) = _
      rw [if_pos ⟨by omega, h0, by omega⟩]
    rw [e1, Option.bind_some, Nat.one_mul, Nat.zero_add]
  · rw [if_pos ⟨hne, ne_es.symm⟩, base_steep, decide_eq_true ne_fs.symm]
    show (go1 B (0, g) (true, true, 1)).bind (fun q => some q) = _
    have e1 : go1 B (0, g) (true, true, 1) = some (0 + 1 * g, g) := by
      show (if 0 < 1 ∧ 0 + 1 * g < B ∧ g < B then some (0 + 1 * g, g) else none) = _
      rw [if_pos ⟨by omega, by omega, h0⟩]
    rw [e1, Option.bind_some, Nat.one_mul, Nat.zero_add]
theorem go_down {B g : Nat} {s e : Str} (he : e = "even" ∨ e = "flat" ∨ e = "steep") (hne : s ≠ e) (h0 : g < B) : leads B (g, g) (wayDown s e) = some (base e g) := by
  unfold wayDown
  rcases he with rfl | rfl | rfl
  · rw [if_neg (fun z => z.2 rfl), base_even]; rfl
  · rw [if_pos ⟨hne, ne_ef.symm⟩, base_flat, decide_eq_false (fun z => z rfl)]
    show (go1 B (g, g) (false, false, 1)).bind (fun q => some q) = _
    have e1 : go1 B (g, g) (false, false, 1) = some (g, 0) := by
      show ((if 1 * g ≤ g then some (g, g - 1 * g) else none).bind fun q => if 0 < 1 ∧ q.1 < B ∧ q.2 < B then some q else none) = _
      rw [if_pos (by omega), Option.bind_some, Nat.one_mul, Nat.sub_self, if_pos ⟨by omega, h0, by show 0 < B; omega⟩]
    rw [e1, Option.bind_some]
  · rw [if_pos ⟨hne, ne_es.symm⟩, base_steep, decide_eq_true ne_fs.symm]
    show (go1 B (g, g) (false, true, 1)).bind (fun q => some q) = _
    have e1 : go1 B (g, g) (false, true, 1) = some (0, g) := by
      show ((if 1 * g ≤ g then some (g - 1 * g, g) else none).bind fun q => if 0 < 1 ∧ q.1 < B ∧ q.2 < B then some q else none) = _
      rw [if_pos (by omega), Option.bind_some, Nat.one_mul, Nat.sub_self, if_pos ⟨by omega, by show 0 < B; omega, h0⟩]
    rw [e1, Option.bind_some]
theorem gcd_lt {x y B : Nat} (h : ¬ (x = 0 ∧ y = 0)) (hx : x < B) (hy : y < B) : Nat.gcd x y < B := by
  by_cases c : x = 0
  · subst c
    rw [Nat.gcd_zero_left]
    exact hy
  · exact Nat.lt_of_le_of_lt (Nat.gcd_le_left y (by omega)) hx
theorem wayRaw_leads {x y u w B : Nat} (h1 : ¬ (x = 0 ∧ y = 0)) (h2 : ¬ (u = 0 ∧ w = 0)) (hg : Nat.gcd x y = Nat.gcd u w) (bx : x < B) (bY : y < B) (bu : u < B) (bw : w < B) : leads B (x, y) (wayRaw x y u w) = some (u, w) := by
  have pl : ∀ r ∈ (R x y).reverse, 0 < r.2 := fun r hr => R_pos' x y r (List.mem_reverse.mp hr)
  have pr : ∀ r ∈ (R u w).reverse, 0 < r.2 := fun r hr => R_pos' u w r (List.mem_reverse.mp hr)
  unfold wayRaw wayL
  by_cases hb : bot x y = bot u w
  · rw [if_pos hb]
    have eu : wayUp (bot x y) (bot u w) = [] := if_neg fun z => z.1 hb
    have ed : wayDown (bot x y) (bot u w) = [] := if_neg fun z => z.1 hb
    rw [eu, ed, List.append_nil, List.append_nil]
    have ef : fin x y = fin u w := by rw [fin_base h1, fin_base h2, hb, hg]
    obtain ⟨c, q1, q2⟩ := restOf_ok (R x y).reverse (R u w).reverse
    obtain ⟨p1, p2, _⟩ := restOf_pos (R x y).reverse (R u w).reverse pl pr
    have e1 := q1 (fin x y)
    have e2 := q2 (fin x y)
    rw [grow_R] at e1
    rw [ef, grow_R] at e2
    rw [leads_app]
    have t := leads_takes B (grow (fin x y) c) (restOf (R x y).reverse (R u w).reverse).1.reverse (fun r hr => p1 r (List.mem_reverse.mp hr))
    rw [List.reverse_reverse, ← e1] at t
    rw [t bx bY, Option.bind_some]
    have a := leads_adds B (restOf (R x y).reverse (R u w).reverse).2 (grow (fin x y) c) p2
    rw [ef, ← e2] at a
    rw [ef]
    exact a bu bw
  · rw [if_neg hb]
    have t := leads_takes B (fin x y) (R x y) (R_pos' x y)
    rw [grow_R] at t
    have a := leads_adds B (R u w).reverse (fin u w) pr
    rw [grow_R] at a
    have gB := gcd_lt h1 bx bY
    show leads B (x, y) (takes (R x y).reverse.reverse ++ _ ++ _ ++ adds (R u w).reverse) = _
    rw [leads_app, leads_app, leads_app, List.reverse_reverse, t bx bY, Option.bind_some, fin_base h1, go_up (bot_cases x y) hb gB, Option.bind_some, go_down (bot_cases u w) hb gB, Option.bind_some, hg, ← fin_base h2]
    exact a bu bw
theorem wayM_leads {x y u w B : Nat} (h1 : ¬ (x = 0 ∧ y = 0)) (h2 : ¬ (u = 0 ∧ w = 0)) (hg : Nat.gcd x y = Nat.gcd u w) (bx : x < B) (bY : y < B) (bu : u < B) (bw : w < B) : leads B (x, y) (wayM x y u w) = some (u, w) :=
  merge_leads (wayRaw_leads h1 h2 hg bx bY bu bw)
theorem cnt_R (x y : Nat) : cnt (R x y).reverse ≤ x + y := by
  have e : cnt (R x y).reverse = cnt (R x y) := by
    unfold cnt
    rw [List.map_reverse, List.sum_reverse]
  rw [e]
  show ((R x y).map (·.2)).sum ≤ _
  rw [← spell_len, spell_R]
  exact L_le x y
theorem wayL_cnt (x y u w : Nat) : cnt (wayL x y u w).1 ≤ x + y ∧ cnt (wayL x y u w).2 ≤ u + w ∧ (wayL x y u w).1.length ≤ (R x y).length ∧ (wayL x y u w).2.length ≤ (R u w).length := by
  have pl : ∀ r ∈ (R x y).reverse, 0 < r.2 := fun r hr => R_pos' x y r (List.mem_reverse.mp hr)
  have pr : ∀ r ∈ (R u w).reverse, 0 < r.2 := fun r hr => R_pos' u w r (List.mem_reverse.mp hr)
  unfold wayL
  by_cases hb : bot x y = bot u w
  · rw [if_pos hb]
    obtain ⟨_, _, q3, q4, q5, q6⟩ := restOf_pos (R x y).reverse (R u w).reverse pl pr
    rw [List.length_reverse] at q5 q6
    exact ⟨Nat.le_trans q3 (cnt_R x y), Nat.le_trans q4 (cnt_R u w), q5, q6⟩
  · rw [if_neg hb]
    refine ⟨cnt_R x y, cnt_R u w, ?_, ?_⟩
    · rw [List.length_reverse]; exact Nat.le_refl _
    · rw [List.length_reverse]; exact Nat.le_refl _
theorem mcnt_takes (l : List (Bool × Nat)) : mcnt (takes l) = cnt l := by
  unfold mcnt takes cnt
  rw [List.map_map]
  rfl
theorem mcnt_adds (l : List (Bool × Nat)) : mcnt (adds l) = cnt l := by
  unfold mcnt adds cnt
  rw [List.map_map]
  rfl
theorem up_cnt (s e : Str) : mcnt (wayUp s e) ≤ 1 ∧ (wayUp s e).length ≤ 1 := by
  unfold wayUp
  by_cases c : s ≠ e ∧ s ≠ "even"
  · rw [if_pos c]; exact ⟨Nat.le_refl _, Nat.le_refl _⟩
  · rw [if_neg c]; exact ⟨Nat.zero_le _, Nat.zero_le _⟩
theorem down_cnt (s e : Str) : mcnt (wayDown s e) ≤ 1 ∧ (wayDown s e).length ≤ 1 := by
  unfold wayDown
  by_cases c : s ≠ e ∧ e ≠ "even"
  · rw [if_pos c]; exact ⟨Nat.le_refl _, Nat.le_refl _⟩
  · rw [if_neg c]; exact ⟨Nat.zero_le _, Nat.zero_le _⟩
theorem wayM_cnt (x y u w : Nat) : mcnt (wayM x y u w) ≤ (x + y) + (u + w) + 2 ∧ (wayM x y u w).length ≤ (R x y).length + (R u w).length + 2 := by
  obtain ⟨h1, h2, h3, h4⟩ := wayL_cnt x y u w
  have u1 := up_cnt (bot x y) (bot u w)
  have d1 := down_cnt (bot x y) (bot u w)
  have er : cnt (wayL x y u w).1.reverse = cnt (wayL x y u w).1 := by
    unfold cnt
    rw [List.map_reverse, List.sum_reverse]
  constructor
  · have e : mcnt (wayM x y u w) = mcnt (wayRaw x y u w) := by
      have := fold_cnt (wayRaw x y u w) []
      exact this.trans (Nat.zero_add _)
    rw [e]
    unfold wayRaw
    rw [mcnt_app, mcnt_app, mcnt_app, mcnt_takes, mcnt_adds, er]
    omega
  · have e := fold_len (wayRaw x y u w) []
    have e2 : (wayRaw x y u w).length = (wayL x y u w).1.length + (wayUp (bot x y) (bot u w)).length + (wayDown (bot x y) (bot u w)).length + (wayL x y u w).2.length := by
      unfold wayRaw takes adds
      rw [List.length_append, List.length_append, List.length_append, List.length_map, List.length_map, List.length_reverse]
    have e3 : (wayM x y u w).length ≤ 0 + (wayRaw x y u w).length := e
    omega
theorem restOf_self : ∀ l : List (Bool × Nat), restOf l l = ([], [])
  | [] => by unfold restOf; rfl
  | a :: l => by rw [restOf, if_pos rfl, restOf_self l]
theorem wayM_self (x y : Nat) : wayM x y x y = [] := by
  have e : wayRaw x y x y = [] := by
    unfold wayRaw wayL wayUp wayDown
    rw [if_pos rfl, restOf_self, if_neg (fun z => z.1 rfl), if_neg (fun z => z.1 rfl)]
    rfl
  unfold wayM
  rw [e]
  rfl
end Bx
namespace Bx
open PySem PySem.Spec PyProof.Rows L2
theorem noL_mvD (m : Mv) : noL (mvD m) = true := rfl
def kD (k : Bool × Bool) : PyData := .tuple [.str (if k.1 then "add" else "take"), .str (if k.2 then "x" else "y")]
theorem eqv_kD (a b : Bool × Bool) : PyData.eqv (kD a) (kD b) = decide (a = b) := by
  obtain ⟨a1, a2⟩ := a
  obtain ⟨b1, b2⟩ := b
  cases a1 <;> cases a2 <;> cases b1 <;> cases b2 <;> decide +kernel
theorem shaped_kD (a : Bool × Bool) : SeqAt.shaped (kD a) = true := by
  obtain ⟨a1, a2⟩ := a
  cases a1 <;> cases a2 <;> decide +kernel
theorem canLay_mvD (m : Mv) : (mvD m).canLay0 = true := by
  obtain ⟨w, a, n⟩ := m
  have h : ∀ (x y : Str), PyData.canLay0 (.str x) = true → PyData.canLay0 (.str y) = true → (PyData.tuple [.str x, .str y, .int (n : Int)]).canLay0 = true := fun x y h1 h2 => by
    rw [PyData.canLay0, PyData.canLayAll0, h1, PyData.canLayAll0, h2]
    rfl
  have h1 : ∀ b : Bool, PyData.canLay0 (.str (if b then "add" else "take")) = true := fun b => by cases b <;> decide +kernel
  have h2 : ∀ b : Bool, PyData.canLay0 (.str (if b then "x" else "y")) = true := fun b => by cases b <;> decide +kernel
  exact h _ _ (h1 w) (h2 a)
theorem shaped_list {α : Type} {f : α → PyData} {n : Nat} (h : ∀ x, (f x).canLay0 = true) (d : ∀ x, (f x).depth ≤ n) (hn : n ≤ 63) (l : List α) : SeqAt.shaped (.list (l.map f)) = true := by
  unfold SeqAt.shaped
  have h2 : (PyData.list (l.map f)).canLay0 = true := by
    rw [PyData.canLay0]
    exact canLay_map h l
  have h3 := depthAll_map d l
  have h4 : (PyData.list (l.map f)).depth ≤ 64 := by
    show PyData.depthAll (l.map f) + 1 ≤ 64
    omega
  rw [h2, decide_eq_true h4]
  rfl
theorem shaped_mvs (l : List Mv) : SeqAt.shaped (.list (l.map mvD)) = true := shaped_list (n := 1) canLay_mvD (fun _ => Nat.le_refl _) (by decide) l
theorem eqv_listnil (l : List PyData) : PyData.eqv (.list l) (.list []) = l.isEmpty := by
  cases l with
  | nil => rfl
  | cons a l => rfl
theorem DpAll.snoc' {K : PySem.W.Frag} {H : Hp} : ∀ {ds : List PyData} {d : PyData} {us : List V}, DpAll K H us (ds ++ [d]) → ∃ us0 u, us = us0 ++ [u] ∧ DpAll K H us0 ds ∧ Dp K H u d
  | [], d, us, h => by
    cases h with
    | cons h1 h2 =>
      cases h2
      exact ⟨[], _, rfl, .nil, h1⟩
  | _ :: ds, d, us, h => by
    cases h with
    | cons h1 h2 =>
      obtain ⟨us0, u, rfl, h3, h4⟩ := DpAll.snoc' (ds := ds) h2
      exact ⟨_ :: us0, u, rfl, .cons h1 h3, h4⟩
theorem Dp.triple {K : PySem.W.Frag} {H : Hp} {v : V} {m : Mv} (h : Dp K H v (mvD m)) : ∃ a, v = .ref a ∧ SqT K H a [.str (if m.1 then "add" else "take"), .str (if m.2.1 then "x" else "y"), .int (m.2.2 : Int)] := by
  cases h with
  | tup hs ha =>
    cases ha with
    | cons h1 h2 =>
      cases h2 with
      | cons h3 h4 =>
        cases h4 with
        | cons h5 h6 =>
          cases h6
          cases Dp.str' h1
          cases Dp.str' h3
          cases Dp.int' h5
          exact ⟨_, rfl, hs⟩
theorem Dp.move {K : PySem.W.Frag} {H : Hp} {a : Addr} {w x : Bool} {n : Int} {k : Nat} (e : n = (k : Int)) (h : SqT K H a [.str (if w then "add" else "take"), .str (if x then "x" else "y"), .int n]) : Dp K H (.ref a) (mvD (w, x, k)) := by
  subst e
  exact .tup h (.cons (.str _) (.cons (.str _) (.cons (.int _) .nil)))
theorem cut_to2 (a b c : V) : cutV [a, b, c] none (some 2) = [a, b] := rfl
theorem at3_0 (a b c : V) : atI [a, b, c] 0 = some a := rfl
theorem at3_1 (a b c : V) : atI [a, b, c] 1 = some b := rfl
theorem at3_2 (a b c : V) : atI [a, b, c] 2 = some c := rfl
theorem foldl_take {l : List Mv} {i : Nat} {m : Mv} (h : l[i]? = some m) : (l.take (i + 1)).foldl mstep [] = mstep ((l.take i).foldl mstep []) m := by
  rw [List.take_add_one, h, Option.toList_some, List.foldl_append]
  rfl
end Bx

-- needs lists
/-! the law's bag of draws -/
namespace Bx
open PySem PySem.Spec PyProof.Rows L2
structure Bag (H : Hp) (b : Addr) : Prop where
  ex : ∃ (c : Addr) (xs : List Int) (i hold seed : Int), H b = some (.lst [.ref c, .int i, .int hold, .int seed]) ∧ H c = some (.lst (xs.map V.int)) ∧ b ≠ c ∧ xs.length ≤ 63 ∧ 0 ≤ i ∧ 0 ≤ hold ∧ 0 ≤ seed ∧ seed < 2147483647
theorem Bag.keep {H H' : Hp} {b : Addr} (B : Bag H b) (e : Same H H') : Bag H' b := by
  obtain ⟨c, xs, i, hold, seed, h1, h2, r⟩ := B.ex
  exact ⟨c, xs, i, hold, seed, e _ _ h1, e _ _ h2, r⟩
theorem Bag.at_ {H : Hp} {b : Addr} (B : Bag H b) : ∃ o, H b = some o := by
  obtain ⟨c, xs, i, hold, seed, h1, _⟩ := B.ex
  exact ⟨_, h1⟩
theorem Bag.ne {H : Hp} {b p : Addr} (B : Bag H b) (h : H p = none) : p ≠ b := fun e => by
  obtain ⟨o, q⟩ := B.at_
  rw [← e, h] at q
  cases q
/-- a tuple is not the bag -/
theorem Bag.neT {H : Hp} {b p : Addr} {xs : List V} (B : Bag H b) (h : H p = some (.tup xs)) : p ≠ b := fun e => by
  obtain ⟨c, ys, i, hold, seed, h1, _⟩ := B.ex
  rw [e, h1] at h
  cases h
theorem emod_bd (x : Int) {m : Int} (h : 0 < m) : 0 ≤ x % m ∧ x % m < m := ⟨Int.emod_nonneg x (by omega), Int.emod_lt_of_pos x h⟩
end Bx
namespace Bx
open PySem PySem.Spec PyProof.Rows L2
/-- a tuple stays behind a draw -/
theorem Bag.seqT {K : PySem.W.Frag} {H H' : Hp} {b a : Addr} {xs : List V} (B : Bag H b) (e : Kp b H H') (h : SqT K H a xs) : SqT K H' a xs := by
  have nb : ∀ o, H a = some o → (∀ ys, o ≠ .lst ys) → a ≠ b := fun o q n z => by
    obtain ⟨c, ys, i, hold, seed, h1, _⟩ := B.ex
    rw [z, h1] at q
    exact n _ (Option.some.inj q).symm
  rcases h with (h | ⟨o, h⟩) | h
  · exact .inl (.inl (e _ _ (nb _ h fun _ z => by cases z) h))
  · exact .inl (.inr ⟨o, e _ _ (nb _ h fun _ z => by cases z) h⟩)
  · exact .inr h
end Bx
-- needs deep
namespace Bx
open PySem PySem.Spec PyProof.Rows L2
theorem Bag.sameT {H H' : Hp} {b : Addr} (B : Bag H b) (e : Kp b H H') : SameT H H' := fun a o q n => by
  refine e a o (fun z => ?_) q
  obtain ⟨c, ys, i, hold, seed, h1, _⟩ := B.ex
  rw [z, h1] at q
  exact n _ (Option.some.inj q).symm
end Bx

namespace Lw
open PySem PySem.Spec PyProof.Rows L2 Bx
def top (i : Nat) : Stmt := PySem.Challenge.pw_addpath_k05_ways_between_pairs.main.body.getD i (.Pass ⟨0, 0, 0, 0⟩)
abbrev s_merged : Stmt := top 13
abbrev s_rest_of : Stmt := top 12
abbrev s_is_number : Stmt := top 4
abbrev s_is_pair : Stmt := top 7
abbrev s_need_pair : Stmt := top 8
abbrev s_bottom : Stmt := top 10
abbrev s_common_divisor : Stmt := top 5
abbrev s_divisor : Stmt := top 9
abbrev s_runs : Stmt := top 11
abbrev s_way : Stmt := top 14
abbrev s__law_same : Stmt := top 19
abbrev s__law_led : Stmt := top 23
abbrev s__law_gcd : Stmt := top 20
abbrev s__law_pull : Stmt := top 17
abbrev s__law_of : Stmt := top 18
abbrev s__law_far_pair : Stmt := top 22
abbrev s__law_pair : Stmt := top 21
abbrev s__law_bag : Stmt := top 16
abbrev s_law : Stmt := top 24
def d_merged : He.DefD := ⟨("merged", none), "merged", "merged", defArgs s_merged, defBody s_merged, defScope s_merged, [], []⟩
def d_rest_of : He.DefD := ⟨("rest_of", none), "rest_of", "rest_of", defArgs s_rest_of, defBody s_rest_of, defScope s_rest_of, [], []⟩
def d_is_number : He.DefD := ⟨("is_number", none), "is_number", "is_number", defArgs s_is_number, defBody s_is_number, defScope s_is_number, [], []⟩
def d_is_pair : He.DefD := ⟨("is_pair", none), "is_pair", "is_pair", defArgs s_is_pair, defBody s_is_pair, defScope s_is_pair, [], []⟩
def d_need_pair : He.DefD := ⟨("need_pair", none), "need_pair", "need_pair", defArgs s_need_pair, defBody s_need_pair, defScope s_need_pair, [], []⟩
def d_bottom : He.DefD := ⟨("bottom", none), "bottom", "bottom", defArgs s_bottom, defBody s_bottom, defScope s_bottom, [], []⟩
def d_common_divisor : He.DefD := ⟨("common_divisor", none), "common_divisor", "common_divisor", defArgs s_common_divisor, defBody s_common_divisor, defScope s_common_divisor, [], []⟩
def d_divisor : He.DefD := ⟨("divisor", none), "divisor", "divisor", defArgs s_divisor, defBody s_divisor, defScope s_divisor, [], []⟩
def d_runs : He.DefD := ⟨("runs", none), "runs", "runs", defArgs s_runs, defBody s_runs, defScope s_runs, [], []⟩
def d_way : He.DefD := ⟨("way", none), "way", "way", defArgs s_way, defBody s_way, defScope s_way, [], []⟩
def d__law_same : He.DefD := ⟨("_law_same", none), "_law_same", "_law_same", defArgs s__law_same, defBody s__law_same, defScope s__law_same, [], []⟩
def d__law_led : He.DefD := ⟨("_law_led", none), "_law_led", "_law_led", defArgs s__law_led, defBody s__law_led, defScope s__law_led, [], []⟩
def d__law_gcd : He.DefD := ⟨("_law_gcd", none), "_law_gcd", "_law_gcd", defArgs s__law_gcd, defBody s__law_gcd, defScope s__law_gcd, [], []⟩
def d__law_pull : He.DefD := ⟨("_law_pull", none), "_law_pull", "_law_pull", defArgs s__law_pull, defBody s__law_pull, defScope s__law_pull, [], []⟩
def d__law_of : He.DefD := ⟨("_law_of", none), "_law_of", "_law_of", defArgs s__law_of, defBody s__law_of, defScope s__law_of, [], []⟩
def d__law_far_pair : He.DefD := ⟨("_law_far_pair", none), "_law_far_pair", "_law_far_pair", defArgs s__law_far_pair, defBody s__law_far_pair, defScope s__law_far_pair, [], []⟩
def d__law_pair : He.DefD := ⟨("_law_pair", none), "_law_pair", "_law_pair", defArgs s__law_pair, defBody s__law_pair, defScope s__law_pair, [], []⟩
def d__law_bag : He.DefD := ⟨("_law_bag", none), "_law_bag", "_law_bag", defArgs s__law_bag, defBody s__law_bag, defScope s__law_bag, [], []⟩
def d_law : He.DefD := ⟨("law", none), "law", "law", defArgs s_law, defBody s_law, defScope s_law, [], []⟩
def fnl : List He.DefD := [d_merged, d_rest_of, d_is_number, d_is_pair, d_need_pair, d_bottom, d_common_divisor, d_divisor, d_runs, d_way, d__law_same, d__law_led, d__law_gcd, d__law_pull, d__law_of, d__law_far_pair, d__law_pair, d__law_bag, d_law]
def glos : List Str := ["merged", "rest_of", "is_number", "is_pair", "need_pair", "bottom", "common_divisor", "divisor", "runs", "way", "_law_same", "_law_led", "_law_gcd", "_law_pull", "_law_of", "_law_far_pair", "_law_pair", "_law_bag", "law"]
def frees : List Str := ["int", "min", "len", "isinstance", "bool", "tuple", "str", "list", "all", "zip", "range", "any"]
def fal : List He.Fa := glos.map .glo ++ frees.map .free
abbrev En := Env fal fnl
theorem in_glos {x : Str} (h : x ∈ glos) : He.Fa.glo x ∈ fal := (List.mem_append_left _ (List.mem_map_of_mem h))
theorem in_frees {x : Str} (h : x ∈ frees) : He.Fa.free x ∈ fal := (List.mem_append_right _ (List.mem_map_of_mem h))
theorem En.gl {K : PySem.W.Frag} {mg : Str → Option Value} (E : En K mg) (x : Str) (h : x ∈ glos := by decide +kernel) : mg x = some (.ref (He.ga K x)) := Env.glo E x (in_glos h)
theorem En.fr {K : PySem.W.Frag} {mg : Str → Option Value} (E : En K mg) (x : Str) (h : x ∈ frees := by decide +kernel) : mg x = none := Env.free E x (in_frees h)
section
variable {P : Program} {w : World} {K : PySem.W.Frag} {mg : Str → Option Value} {base : Heap}
/-! ### merged -/
/-- neighbouring moves of one kind put together -/
def sp_merged (K : PySem.W.Frag) : Sp := fun vs H Q _ => ∃ (a : Addr) (us : List V) (ms : List Mv), vs = [.ref a] ∧ SqL K H a us ∧ DpAll K H us (ms.map mvD) ∧ ms.length ≤ 20000 ∧
  ∀ (f : Addr) (us' : List V) (H' : Hp), H f = none → Same H H' → H' f = some (.lst us') → DpAll K H' us' ((merge ms).map mvD) → Q (.ref f) H'

theorem sc_merged : FnScope ["moves", "found", "word", "axis", "count"] ["moves"] (defScope s_merged) := ⟨rfl, rfl, rfl, by decide +kernel, rfl, by decide +kernel, by decide +kernel⟩
theorem ok_merged (E : En K mg) : Good P w K mg base CX0 1 "merged" ["moves"] (sp_merged K) := by
  obtain ⟨fd, F⟩ := E.says.def_ 0 (d := d_merged) rfl
  refine ⟨fd, ?_, F.bindsN fun _ _ _ _ _ _ us hl => match us, hl with | [_], _ => rfl, F.kp, E.gl "merged"⟩
  refine F.ok sc_merged (fun vs H Q E' h => ?_) (fun cdv A outer s H vs Q E' hr h => ?_)
  · obtain ⟨a, us, ms, rfl, _⟩ := h; rfl
  · have hu64 := hu64_of hr
    refine ⟨_, PSs.nox (pss_cons (ps_set (i := 1) sc_merged.nd rfl (by first | exact Or.inl rfl | exact Or.inr rfl) (pe_lst pa_nil))
      (pss_cons (ps_for PassesOwn.never rfl (pi_list (pv 0)) (pg_tup rfl (pgs_cons (pg_name (i := 2) sc_merged.nd rfl (by first | exact Or.inl rfl | exact Or.inr rfl)) (pgs_cons (pg_name (i := 3) sc_merged.nd rfl (by first | exact Or.inl rfl | exact Or.inr rfl)) (pgs_cons (pg_name (i := 4) sc_merged.nd rfl (by first | exact Or.inl rfl | exact Or.inr rfl)) pgs_nil))))
        (pss_cons (ps_if (PW.pt (pw_and (pt_cmpR (op_neD hu64) (pv 1) (pe_lst pa_nil) (nomark _)) (pw_and1 (pt_cmpR (op_eqD hu64) (pe_slice sl_tup (pe_ix ix_list (pv 1) (pe_un un_neg pe_int) (fun _ _ => rfl)) po_none (po_some pe_int)) (pe_tup (pa_cons (pv 2) (pa_cons (pv 3) pa_nil))) (nomark _)))))
        (pss_one (ps_aug (i := 4) sc_merged.nd rfl (by first | exact Or.inl rfl | exact Or.inr rfl) (pe_ix ix_tup (pe_bm0 PySem.F.plainAttrs_list PySem.F.slot_list_pop PySem.F.type_list_pop mt_pop (pv 1)) pe_int (fun _ _ => rfl)) ip_add))
        pss_nil)
      (pss_one (ps_expr (pe_bm PySem.F.plainAttrs_list PySem.F.slot_list_append PySem.F.type_list_append mt_append (pv 1) (pa_cons (pe_tup (pa_cons (pv 2) (pa_cons (pv 3) (pa_cons (pv 4) pa_nil)))) pa_nil))))))
      (pss_one (ps_ret (pv 1))))), ?_⟩
    obtain ⟨a, us, ms, rfl, hA, dA, hlen, k⟩ := h
    have s2 : 2 ≤ sizeLine := by decide
    have s3 : 3 ≤ sizeLine := by decide
    have lA := DpAll.length dA
    rw [List.length_map] at lA
    refine ⟨(by show 0 ≤ sizeLine; decide), fun f hf => ?_⟩
    have e0 := same_new (o := .lst []) hf
    refine ⟨_, rfl, a, rfl, ⟨_, e0.seq hA⟩, for_list (K := K) (a := a) (xs := us) (fun i σ H' => ∃ (us' : List V) (s2 s3 s4 : Option V), σ = [some (.ref a), some (.ref f), s2, s3, s4] ∧ Same H H' ∧ H' f = some (.lst us') ∧ DpAll K H' us' (((ms.take i).foldl mstep []).map mvD))
      ⟨[], _, _, _, rfl, e0, upd_same, .nil⟩ (fun i σ H' _ ⟨_, _, _, _, _, e, _⟩ => e.seq hA) ?_ ?_⟩
    · rintro i x σ H1 hx ⟨us', _, _, _, rfl, e1, hF, dF⟩
      obtain ⟨d, hd, dx⟩ := DpAll.get (Dp.sameAll e1 dA) hx
      obtain ⟨⟨w, ax, n⟩, hm, rfl⟩ : ∃ m, ms[i]? = some m ∧ mvD m = d := by
        rw [List.getElem?_map] at hd
        cases q : ms[i]? with
        | none => rw [q] at hd; cases hd
        | some r => rw [q] at hd; exact ⟨r, rfl, Option.some.inj hd⟩
      obtain ⟨px, rfl, hpx⟩ := Dp.triple dx
      have hi : i < ms.length := (List.getElem?_eq_some_iff.mp hm).1
      have hstep := foldl_take hm
      have hl0 := fold_len (ms.take i) []
      rw [List.length_take] at hl0
      generalize hacc : (ms.take i).foldl mstep [] = acc at *
      have lF := DpAll.length dF
      rw [List.length_map] at lF
      have hl1 : acc.length ≤ 20000 := by
        have : acc.length ≤ 0 + min i ms.length := hl0
        omega
      refine ⟨px, _, rfl, hpx, rfl, _, _, rfl, _, _, rfl, _, _, rfl, rfl, ?_⟩
      -- the list with one more move
      have push : ∀ (us4 : List V) (acc4 : List Mv) (c : Int) (cn : Nat) (H4 : Hp), c = (cn : Int) → Same H H4 → H4 f = some (.lst us4) → DpAll K H4 us4 (acc4.map mvD) → mstep acc (w, ax, n) = acc4 ++ [(w, ax, cn)] → ∀ p, H4 p = none → ∀ σ', σ' = [some (V.ref a), some (.ref f), some (.str (if w then "add" else "take")), some (.str (if ax then "x" else "y")), some (.int c)] →
          ∃ (us' : List V) (s2 s3 s4 : Option V), σ' = [some (.ref a), some (.ref f), s2, s3, s4] ∧ Same H (upd (upd H4 p (.tup [.str (if w then "add" else "take"), .str (if ax then "x" else "y"), .int c])) f (.lst (us4 ++ [.ref p]))) ∧ (upd (upd H4 p (.tup [.str (if w then "add" else "take"), .str (if ax then "x" else "y"), .int c])) f (.lst (us4 ++ [.ref p]))) f = some (.lst us') ∧ DpAll K (upd (upd H4 p (.tup [.str (if w then "add" else "take"), .str (if ax then "x" else "y"), .int c])) f (.lst (us4 ++ [.ref p]))) us' (((ms.take (i + 1)).foldl mstep []).map mvD) := fun us4 acc4 c cn H4 hc e4 h4 d4 hms p hp σ' hσ => by
        subst hσ
        have nf : f ≠ p := ne_of_none h4 hp
        have h5 : (upd H4 p (.tup [.str (if w then "add" else "take"), .str (if ax then "x" else "y"), .int c])) f = some (.lst us4) := by rw [upd_ne nf]; exact h4
        refine ⟨us4 ++ [.ref p], _, _, _, rfl, same_mut (e4.trans (same_new hp)) hf, upd_same, ?_⟩
        rw [hstep, hms, List.map_append]
        exact DpAll.append (Dp.sameTs ((SameT.new hp).trans (.put h5)) (noLs_map noL_mvD acc4) d4) (DpAll.one (Dp.move hc (SqT.of (by rw [upd_ne nf.symm, upd_same]))))
      -- if found != [] and found[-1][:2] == (word, axis)
      refine ⟨_, rfl, (by show 0 ≤ sizeLine; decide), fun n1 hn1 => ?_⟩
      have f1 := same_new (o := .lst []) hn1
      refine ⟨.list (acc.map mvD), .list [], .lst (SqL.of (f1 _ _ hF)) (Dp.sameAll f1 dF), .lst (SqL.of upd_same) .nil, shaped_mvs _, by decide +kernel, _, rfl, ?_⟩
      cases hlast : acc.getLast? with
      | none =>
        have ea : acc = [] := List.getLast?_eq_none_iff.mp hlast
        subst ea
        refine ite_f (by rw [eqv_listnil]; rfl) (ite_f rfl ?_)
        refine ⟨_, rfl, .inl ⟨rfl, _, SqL.of (f1 _ _ hF)⟩, _, rfl, _, rfl, _, rfl, s3, fun p hp => ?_⟩
        refine ⟨f, us', .ref p, rfl, rfl, by rw [upd_ne (ne_of_none (f1 _ _ hF) hp)]; exact f1 _ _ hF, szl (by omega), ?_⟩
        exact push us' [] (n : Int) n _ rfl (e1.trans f1) (f1 _ _ hF) (Dp.sameAll f1 dF) rfl p hp _ rfl
      | some l =>
        have ea := last_split hlast
        have hne : acc.map mvD ≠ [] := fun z => by
          rw [List.map_eq_nil_iff] at z
          rw [z] at hlast
          cases hlast
        have hemp : (acc.map mvD).isEmpty = false := by
          cases hq : acc.map mvD with
          | nil => exact absurd hq hne
          | cons _ _ => rfl
        rw [ea, List.map_append] at dF
        obtain ⟨us0, u, rfl, d0, du⟩ := DpAll.snoc' dF
        obtain ⟨lw, lax, ln⟩ := l
        obtain ⟨pu, rfl, hpu⟩ := Dp.triple du
        refine ite_t (by rw [eqv_listnil, hemp]; rfl) ?_
        refine ⟨_, rfl, _, rfl, f, _, _, _, rfl, rfl, SqL.of (f1 _ _ hF), atI_last us0 _, 2, rfl, pu, _, rfl, seqT f1 hpu, (fun z => absurd (show HT.sIx 3 3 (some 2) = 3 from z.2) (by decide)), fun p1 hp1 => ?_⟩
        rw [cut_to2]
        have f2 := f1.trans (same_new (o := .tup [.str (if lw then "add" else "take"), .str (if lax then "x" else "y")]) hp1)
        refine ⟨_, rfl, _, rfl, s2, fun p2 hp2 => ?_⟩
        have f3 := f2.trans (same_new (o := .tup [.str (if w then "add" else "take"), .str (if ax then "x" else "y")]) hp2)
        refine ⟨kD (lw, lax), kD (w, ax), .tup (SqT.of (same_new hp2 _ _ upd_same)) (.cons (.str _) (.cons (.str _) .nil)), .tup (SqT.of upd_same) (.cons (.str _) (.cons (.str _) .nil)), shaped_kD _, shaped_kD _, _, rfl, ?_⟩
        generalize (upd (upd (upd H1 n1 (.lst [])) p1 (.tup [.str (if lw then "add" else "take"), .str (if lax then "x" else "y")])) p2 (.tup [.str (if w then "add" else "take"), .str (if ax then "x" else "y")])) = H3 at *
        have hF3 := f3 _ _ hF
        have l0 : us0.length ≤ 20000 := by
          rw [List.length_append, List.length_singleton] at lF
          omega
        by_cases c : (lw, lax) = (w, ax)
        · refine ite_t (by rw [eqv_kD]; exact decide_eq_true c) ?_
          -- count += found.pop()[2]
          refine ⟨_, rfl, _, rfl, .inl ⟨rfl, _, SqL.of hF3⟩, f, us0 ++ [V.ref pu], .ref pu, rfl, rfl, hF3, by rw [List.length_append, List.length_singleton, Nat.add_sub_cancel, List.getElem?_concat_length], pu, _, _, _, rfl, rfl, (SameT.put hF3).seqT (seqT f3 hpu), at3_2 _ _ _, _, _, rfl, rfl, ?_⟩
          have e4 : Same H (upd H3 f (.lst (us0 ++ [V.ref pu]).dropLast)) := same_mut (e1.trans f3) hf
          have hF4 : (upd H3 f (.lst (us0 ++ [V.ref pu]).dropLast)) f = some (.lst us0) := by rw [upd_same, List.dropLast_concat]
          refine ⟨_, rfl, .inl ⟨rfl, _, SqL.of hF4⟩, _, rfl, _, rfl, _, rfl, s3, fun p hp => ?_⟩
          refine ⟨f, us0, .ref p, rfl, rfl, by rw [upd_ne (ne_of_none hF4 hp)]; exact hF4, szl (by omega), ?_⟩
          refine push us0 acc.dropLast ((n : Int) + (ln : Int)) (n + ln) _ (by omega) e4 hF4 (Dp.sameTs (.put hF3) (noLs_map noL_mvD _) (Dp.sameAll f3 d0)) ?_ p hp _ rfl
          unfold mstep
          rw [hlast]
          show (if keyOf (lw, lax, ln) = keyOf (w, ax, n) then _ else _) = _
          rw [if_pos (show keyOf (lw, lax, ln) = keyOf (w, ax, n) from c)]
        · refine ite_f (by rw [eqv_kD]; exact decide_eq_false c) ?_
          refine ⟨_, rfl, .inl ⟨rfl, _, SqL.of hF3⟩, _, rfl, _, rfl, _, rfl, s3, fun p hp => ?_⟩
          refine ⟨f, us0 ++ [V.ref pu], .ref p, rfl, rfl, by rw [upd_ne (ne_of_none hF3 hp)]; exact hF3, szl (by rw [List.length_append, List.length_singleton]; omega), ?_⟩
          refine push (us0 ++ [V.ref pu]) acc (n : Int) n _ rfl (e1.trans f3) hF3 (by rw [ea, List.map_append]; exact Dp.sameAll f3 dF) ?_ p hp _ rfl
          unfold mstep
          rw [hlast]
          show (if keyOf (lw, lax, ln) = keyOf (w, ax, n) then _ else _) = _
          rw [if_neg (show ¬ keyOf (lw, lax, ln) = keyOf (w, ax, n) from c)]
    · rintro σ H1 ⟨us', _, _, _, rfl, e1, hF, dF⟩
      rw [lA, List.take_length] at dF
      exact ⟨_, rfl, k f us' H1 hf e1 hF dF⟩

/-! ### rest_of -/
/-- two lists of runs without their longest common beginning -/
def sp_rest_of (K : PySem.W.Frag) : Sp := fun vs H Q _ => ∃ (a b : Addr) (us ws : List V) (l r : List (Bool × Nat)), vs = [.ref a, .ref b] ∧ H a = some (.lst us) ∧ H b = some (.lst ws) ∧ DpAll K H us (l.map runD) ∧ DpAll K H ws (r.map runD) ∧ l.length ≤ 8000 ∧ r.length ≤ 8000 ∧
  ∀ (t p q : Addr) (us' ws' : List V) (H' : Hp), Same H H' → H' t = some (.tup [.ref p, .ref q]) → H' p = some (.lst us') → H' q = some (.lst ws') → DpAll K H' us' ((restOf l r).1.map runD) → DpAll K H' ws' ((restOf l r).2.map runD) → Q (.ref t) H'
theorem DpAll.drop {K : PySem.W.Frag} {H : Hp} : ∀ {ds : List PyData} {vs : List V} (n : Nat), DpAll K H vs ds → DpAll K H (vs.drop n) (ds.drop n)
  | _, _, 0, h => h
  | [], _, n + 1, h => by cases h; exact .nil
  | _ :: _, _, n + 1, h => by
    cases h with
    | cons h1 h2 => exact DpAll.drop n h2
theorem restOf_nil {l r : List (Bool × Nat)} (h : l = [] ∨ r = []) : restOf l r = (l, r) := by
  rcases h with h | h
  · subst h; unfold restOf; rfl
  · subst h; cases l <;> (unfold restOf; rfl)

theorem sc_rest_of : FnScope ["left", "right", "at", "letter", "shared", "cut", "rows"] ["left", "right"] (defScope s_rest_of) := ⟨rfl, rfl, rfl, by decide +kernel, rfl, by decide +kernel, by decide +kernel⟩
theorem ok_rest_of (E : En K mg) : Good P w K mg base CX0 1 "rest_of" ["left", "right"] (sp_rest_of K) := by
  obtain ⟨fd, F⟩ := E.says.def_ 1 (d := d_rest_of) rfl
  refine ⟨fd, ?_, F.bindsN fun _ _ _ _ _ _ us hl => match us, hl with | [_, _], _ => rfl, F.kp, E.gl "rest_of"⟩
  refine F.ok sc_rest_of (fun vs H Q E' h => ?_) (fun cdv A outer s H vs Q E' hr h => ?_)
  · obtain ⟨a, b, us, ws, l, r, rfl, _⟩ := h; rfl
  · have hu64 := hu64_of hr
    refine ⟨_, PSs.nox (pss_cons (ps_set (i := 2) sc_rest_of.nd rfl (by first | exact Or.inl rfl | exact Or.inr rfl) pe_int)
      (C8.pss_cut (ps_while PassesOwn.never (PW.pt (pw_and (pt_cmpR op_lt (pv 2) (pe_callB call_len_seq (by rfl) (E.fr "len") (by decide +kernel) (pa_cons (pv 0) pa_nil)) (nomark _)) (pw_and (pt_cmpR op_lt (pv 2) (pe_callB call_len_seq (by rfl) (E.fr "len") (by decide +kernel) (pa_cons (pv 1) pa_nil)) (nomark _)) (pw_and1 (pt_cmpR (op_eqD hu64) (pe_ix ix_list (pv 0) (pv 2) (fun _ _ => rfl)) (pe_ix ix_list (pv 1) (pv 2) (fun _ _ => rfl)) (nomark _))))))
        (pss_one (ps_aug (i := 2) sc_rest_of.nd rfl (by first | exact Or.inl rfl | exact Or.inr rfl) pe_int ip_add)))
      (pss_cons (ps_par (i := 0) (j := 1) rfl sc_rest_of.nd rfl rfl (by decide) rfl rfl (pa_cons (pe_slice sl_list (pv 0) (po_some (pv 2)) po_none) (pa_cons (pe_slice sl_list (pv 1) (po_some (pv 2)) po_none) pa_nil)) rfl)
      (pss_cons (ps_if (PW.pt (pw_or (pt_cmpR (op_eqD hu64) (pv 0) (pe_lst pa_nil) (nomark _)) (pw_or (pt_cmpR (op_eqD hu64) (pv 1) (pe_lst pa_nil) (nomark _)) (pw_or1 (pt_cmpR op_ne (pe_ix ix_tup (pe_ix ix_list (pv 0) pe_int (fun _ _ => rfl)) pe_int (fun _ _ => rfl)) (pe_ix ix_tup (pe_ix ix_list (pv 1) pe_int (fun _ _ => rfl)) pe_int (fun _ _ => rfl)) (nomark _))))))
        (pss_one (ps_ret (pe_tup (pa_cons (pv 0) (pa_cons (pv 1) pa_nil)))))
        pss_nil)
      (pss_cons (ps_asg (pe_tup (pa_cons (pe_ix ix_tup (pe_ix ix_list (pv 0) pe_int (fun _ _ => rfl)) pe_int (fun _ _ => rfl)) (pa_cons (pe_callB (call_min2 rfl) (by rfl) (E.fr "min") (by decide +kernel) (pa_cons (pe_ix ix_tup (pe_ix ix_list (pv 0) pe_int (fun _ _ => rfl)) pe_int (fun _ _ => rfl)) (pa_cons (pe_ix ix_tup (pe_ix ix_list (pv 1) pe_int (fun _ _ => rfl)) pe_int (fun _ _ => rfl)) pa_nil))) pa_nil))) (pg_tup rfl (pgs_cons (pg_name (i := 3) sc_rest_of.nd rfl (by first | exact Or.inl rfl | exact Or.inr rfl)) (pgs_cons (pg_name (i := 4) sc_rest_of.nd rfl (by first | exact Or.inl rfl | exact Or.inr rfl)) pgs_nil))))
      (pss_cons (ps_setLc (i := 5) (own := [("rows", 6)]) (by rfl) sc_rest_of.nd rfl rfl (sw_true rfl rfl rfl (by decide +kernel)) (pi_tup (pe_tup (pa_cons (pv 0) (pa_cons (pv 1) pa_nil)))) (blkOk_by (N := ["left", "right", "at", "letter", "shared", "cut", "rows"]) (sc := defScope s_rest_of) (by decide +kernel)) (by exact fun _ _ _ _ _ => (pg_name (i := 6) sc_rest_of.nd rfl (by first | exact Or.inl rfl | exact Or.inr rfl))) (by exact fun _ _ _ _ _ => pts_nil) (by exact fun _ _ _ _ _ => (pe_op op_cat (pe_op op_rep (pe_lst (pa_cons (pe_tup (pa_cons (pv 3) (pa_cons (pe_op op_sub (pe_ix (show IxR _ (rIxT K) from ix_tup) (pe_ix (show IxR _ (rIxL K) from ix_list) (pv 6) pe_int (fun _ _ => rfl)) pe_int (fun _ _ => rfl)) (pv 4)) pa_nil))) pa_nil)) (pe_callTy call_int1 (by rfl) (E.fr "int") (by decide +kernel) (pa_cons (pe_cmpR op_gt (pe_ix (show IxR _ (rIxT K) from ix_tup) (pe_ix (show IxR _ (rIxL K) from ix_list) (pv 6) pe_int (fun _ _ => rfl)) pe_int (fun _ _ => rfl)) (pv 4) (nomark _)) pa_nil))) (pe_slice (show SlR _ (rSlL K) from sl_list) (pv 6) (po_some pe_int) po_none))))
      (pss_one (ps_ret (pe_tup (pa_cons (pe_ix ix_list (pv 5) pe_int (fun _ _ => rfl)) (pa_cons (pe_ix ix_list (pv 5) pe_int (fun _ _ => rfl)) pa_nil))))))))))), ?_⟩
    obtain ⟨a, b, us, ws, l, r, rfl, hA, hB, dA, dB, bl, br, k⟩ := h
    have s2 : 2 ≤ sizeLine := by decide
    have s1 : 1 ≤ sizeLine := by decide
    have lA := DpAll.length dA
    have lB := DpAll.length dB
    rw [List.length_map] at lA lB
    refine ⟨fun σ H' => H' = H ∧ ∃ i : Nat, σ = [some (.ref a), some (.ref b), some (.int (i : Int)), none, none, none, none] ∧ restOf l r = restOf (l.drop i) (r.drop i) ∧ (l.drop i = [] ∨ r.drop i = [] ∨ ∃ x y l' r', l.drop i = x :: l' ∧ r.drop i = y :: r' ∧ x ≠ y), ?_, ?_⟩
    · refine ⟨fun m σ H' => ∃ i : Nat, m = us.length - i ∧ σ = [some (.ref a), some (.ref b), some (.int (i : Int)), none, none, none, none] ∧ H' = H ∧ restOf l r = restOf (l.drop i) (r.drop i) ∧ i ≤ us.length ∧ i ≤ ws.length,
        ⟨us.length, 0, rfl, rfl, rfl, rfl, Nat.zero_le _, Nat.zero_le _⟩, ?_⟩
      rintro m σ H' ⟨i, rfl, rfl, rfl, hR, hi1, hi2⟩
      refine ⟨_, rfl, _, rfl, a, _, rfl, .inl (SqL.of hA), _, _, rfl, rfl, _, rfl, ?_⟩
      by_cases c1 : i < us.length
      rotate_left
      · exact ite_f (decide_eq_false (by omega)) (ite_f rfl ⟨rfl, i, rfl, hR, .inl (List.drop_eq_nil_of_le (by omega))⟩)
      refine ite_t (decide_eq_true (by omega)) ⟨_, rfl, _, rfl, b, _, rfl, .inl (SqL.of hB), _, _, rfl, rfl, _, rfl, ?_⟩
      by_cases c2 : i < ws.length
      rotate_left
      · exact ite_f (decide_eq_false (by omega)) (ite_f rfl ⟨rfl, i, rfl, hR, .inr (.inl (List.drop_eq_nil_of_le (by omega)))⟩)
      have g1 : us[i]? = some us[i] := List.getElem?_eq_getElem c1
      have g2 : ws[i]? = some ws[i] := List.getElem?_eq_getElem c2
      obtain ⟨ca, na, pa, ra, ea, ta⟩ := run_get dA g1
      obtain ⟨cb, nb, pb, rb, eb, tb⟩ := run_get dB g2
      have da : l.drop i = (ca, na) :: l.drop (i + 1) := by
        obtain ⟨q1, q2⟩ := List.getElem?_eq_some_iff.mp ra
        rw [List.drop_eq_getElem_cons q1, q2]
      have db : r.drop i = (cb, nb) :: r.drop (i + 1) := by
        obtain ⟨q1, q2⟩ := List.getElem?_eq_some_iff.mp rb
        rw [List.drop_eq_getElem_cons q1, q2]
      refine ite_t (decide_eq_true (by omega)) ⟨_, rfl, _, rfl, a, us, _, _, rfl, rfl, SqL.of hA, atI_nat g1, _, rfl, _, rfl, b, ws, _, _, rfl, rfl, SqL.of hB, atI_nat g2, runD (ca, na), runD (cb, nb), ?_, ?_, shaped_runD _, shaped_runD _, _, rfl, ?_⟩
      · rw [ea]
        exact .tup ta (.cons (.str _) (.cons (.int _) .nil))
      · rw [eb]
        exact .tup tb (.cons (.str _) (.cons (.int _) .nil))
      by_cases c3 : (ca, na) = (cb, nb)
      · refine ite_t (by rw [eqv_runD]; exact decide_eq_true c3) ⟨fun σ' H'' => ∃ m', m' < us.length - i ∧ ∃ i : Nat, m' = us.length - i ∧ σ' = [some (.ref a), some (.ref b), some (.int (i : Int)), none, none, none, none] ∧ H'' = H' ∧ restOf l r = restOf (l.drop i) (r.drop i) ∧ i ≤ us.length ∧ i ≤ ws.length, fun _ _ q => q, ?_⟩
        refine ⟨_, rfl, _, _, rfl, rfl, ?_⟩
        refine ⟨us.length - (i + 1), by omega, i + 1, rfl, ?_, rfl, ?_, by omega, by omega⟩
        · rw [show ((i + 1 : Nat) : Int) = (i : Int) + 1 by omega]
          rfl
        · rw [hR, da, db, restOf, if_pos c3]
      · refine ite_f (by rw [eqv_runD]; exact decide_eq_false c3) ⟨rfl, i, rfl, hR, .inr (.inr ⟨_, _, _, _, da, db, c3⟩)⟩
    · rintro σ H' ⟨rfl, i, rfl, hR, hend⟩
      rw [hR] at k
      have dA' := DpAll.drop i dA
      have dB' := DpAll.drop i dB
      rw [← List.map_drop] at dA' dB'
      have bL : (l.drop i).length ≤ 8000 := by rw [List.length_drop]; omega
      have bM : (r.drop i).length ≤ 8000 := by rw [List.length_drop]; omega
      generalize l.drop i = L at *
      generalize r.drop i = M at *
      -- left, right = left[at:], right[at:]
      refine ⟨_, rfl, _, rfl, _, rfl, a, us, rfl, SqL.of hA, fun p hp => ?_⟩
      rw [cut_from]
      have e1 := same_new (o := .lst (us.drop i)) hp
      refine ⟨_, rfl, _, rfl, _, rfl, b, ws, rfl, SqL.of (e1 _ _ hB), fun q hq => ⟨_, _, rfl, ?_⟩⟩
      rw [cut_from]
      have e2 := e1.trans (same_new (o := .lst (ws.drop i)) hq)
      have hP : (upd (upd H' p (.lst (us.drop i))) q (.lst (ws.drop i))) p = some (.lst (us.drop i)) := same_new hq _ _ upd_same
      have hQ : (upd (upd H' p (.lst (us.drop i))) q (.lst (ws.drop i))) q = some (.lst (ws.drop i)) := upd_same
      have dP := Dp.sameAll e2 dA'
      have dQ := Dp.sameAll e2 dB'
      generalize upd (upd H' p (.lst (us.drop i))) q (.lst (ws.drop i)) = H2 at *
      generalize us.drop i = us2 at *
      generalize ws.drop i = ws2 at *
      -- if left == [] or right == [] or left[0][0] != right[0][0]: return (left, right)
      have early : restOf L M = (L, M) → ∀ H3, Same H2 H3 → ∀ t, H3 t = none → Q (.ref t) (upd H3 t (.tup [.ref p, .ref q])) := fun z H3 e3 t ht => by
        have e4 := e3.trans (same_new (o := .tup [.ref p, .ref q]) ht)
        rw [z] at k
        exact k t p q us2 ws2 _ (e2.trans e4) upd_same (e4 _ _ hP) (e4 _ _ hQ) (Dp.sameAll e4 dP) (Dp.sameAll e4 dQ)
      refine ⟨_, rfl, (by show 0 ≤ sizeLine; decide), fun n1 hn1 => ?_⟩
      have f1 := same_new (o := .lst []) hn1
      refine ⟨runsD L, .list [], Dp_runs (SqL.of (f1 _ _ hP)) (Dp.sameAll f1 dP), .lst (SqL.of upd_same) .nil, shaped_runs _, by decide +kernel, _, rfl, ?_⟩
      by_cases c1 : L = []
      · refine ite_t (by rw [eqv_nil]; exact decide_eq_true c1) (ite_t rfl ⟨_, rfl, _, rfl, s2, early (restOf_nil (.inl c1)) _ f1⟩)
      refine ite_f (by rw [eqv_nil]; exact decide_eq_false c1) ⟨_, rfl, (by show 0 ≤ sizeLine; decide), fun n2 hn2 => ?_⟩
      have f2 := f1.trans (same_new (o := .lst []) hn2)
      refine ⟨runsD M, .list [], Dp_runs (SqL.of (f2 _ _ hQ)) (Dp.sameAll f2 dQ), .lst (SqL.of upd_same) .nil, shaped_runs _, by decide +kernel, _, rfl, ?_⟩
      by_cases c2 : M = []
      · refine ite_t (by rw [eqv_nil]; exact decide_eq_true c2) (ite_t rfl ⟨_, rfl, _, rfl, s2, early (restOf_nil (.inr c2)) _ f2⟩)
      obtain ⟨⟨ca, na⟩, ⟨cb, nb⟩, L', M', rfl, rfl, hne⟩ : ∃ x y l' r', L = x :: l' ∧ M = y :: r' ∧ x ≠ y := by
        rcases hend with z | z | z
        · exact absurd z c1
        · exact absurd z c2
        · exact z
      refine ite_f (by rw [eqv_nil]; exact decide_eq_false c2) ?_
      generalize (upd (upd H2 n1 (.lst [])) n2 (.lst [])) = H3 at *
      have hP3 := f2 _ _ hP
      have hQ3 := f2 _ _ hQ
      have dP3 := Dp.sameAll f2 dP
      have dQ3 := Dp.sameAll f2 dQ
      obtain ⟨ua, us3, rfl⟩ : ∃ u r, us2 = u :: r := by cases dP with | cons h1 h2 => exact ⟨_, _, rfl⟩
      obtain ⟨ub, ws3, rfl⟩ : ∃ u r, ws2 = u :: r := by cases dQ with | cons h1 h2 => exact ⟨_, _, rfl⟩
      obtain ⟨_, _, pa, ra, ea, ta⟩ := run_get dP3 (i := 0) rfl
      cases ra
      subst ea
      obtain ⟨_, _, pb, rb, eb, tb⟩ := run_get dQ3 (i := 0) rfl
      cases rb
      subst eb
      have at0 : ∀ (x : V) (xs : List V), atI (x :: xs) 0 = some x := fun x xs => atI_nat (j := 0) rfl
      refine ⟨_, rfl, p, _, _, _, rfl, rfl, SqL.of hP3, at0 _ _, pa, _, _, _, rfl, rfl, ta, at2_0 _ _, _, rfl, q, _, _, _, rfl, rfl, SqL.of hQ3, at0 _ _, pb, _, _, _, rfl, rfl, tb, at2_0 _ _, rfl, _, rfl, ?_⟩
      by_cases c3 : ca = cb
      rotate_left
      · refine ite_t (by rw [letS_inj c3]; rfl) ⟨_, rfl, _, rfl, s2, early ?_ _ f2⟩
        rw [restOf, if_neg hne, if_pos c3]
      subst c3
      refine ite_f (by rw [decide_eq_true (Eq.refl _)]; rfl) ?_
      -- letter, shared = ..
      refine ⟨_, rfl, p, _, _, _, rfl, rfl, SqL.of hP3, at0 _ _, pa, _, _, _, rfl, rfl, ta, at2_0 _ _, _, rfl, p, _, _, _, rfl, rfl, SqL.of hP3, at0 _ _, pa, _, _, _, rfl, rfl, ta, at2_1 _ _, _, rfl, q, _, _, _, rfl, rfl, SqL.of hQ3, at0 _ _, pb, _, _, _, rfl, rfl, tb, at2_1 _ _, _, _, rfl, s2, fun t0 ht0 => ?_⟩
      have emin : (if (nb : Int) < (na : Int) then (nb : Int) else (na : Int)) = ((min na nb : Nat) : Int) := by
        by_cases z : nb < na
        · rw [if_pos (by omega), Nat.min_eq_right (by omega)]
        · rw [if_neg (by omega), Nat.min_eq_left (by omega)]
      obtain ⟨s, hs⟩ : ∃ s, s = min na nb := ⟨_, rfl⟩
      rw [emin, ← hs]
      have f3 := same_new (o := .tup [.str (letS ca), .int (s : Int)]) ht0
      refine ⟨t0, _, rfl, SqT.of upd_same, rfl, _, _, rfl, _, _, rfl, rfl, ?_⟩
      -- cut
      refine ⟨_, rfl, _, rfl, s2, fun t1 ht1 => ⟨t1, rfl, ⟨_, SqT.of upd_same⟩, fun D hD => ?_⟩⟩
      have f34 := f3.trans (same_new (o := .tup [.ref p, .ref q]) ht1)
      have hT1 : (upd (upd H3 t0 (.tup [.str (letS ca), .int (s : Int)])) t1 (.tup [.ref p, .ref q])) t1 = some (.tup [.ref p, .ref q]) := upd_same
      generalize (upd (upd H3 t0 (.tup [.str (letS ca), .int (s : Int)])) t1 (.tup [.ref p, .ref q])) = H4 at *
      have hsn : s ≤ na := by omega
      have hsm : s ≤ nb := by omega
      have ltn : ∀ {n m : Nat}, decide ((m : Int) < (n : Int)) = decide (m < n) := fun {n m} => by
        by_cases z : m < n
        · rw [decide_eq_true z, decide_eq_true (by omega)]
        · rw [decide_eq_false z, decide_eq_false (by omega)]
      -- one turn, for a list with a first run n and a rest
      let sel : Nat → List (Bool × Nat) := fun j => match j with
        | 0 => (if na > s then [(ca, na - s)] else []) ++ L'
        | _ => (if nb > s then [(ca, nb - s)] else []) ++ M'
      have hl3 : us3.length ≤ 8000 ∧ ws3.length ≤ 8000 := by
        have q1 := DpAll.length dP3
        have q2 := DpAll.length dQ3
        simp only [List.length_cons, List.length_map] at q1 q2 bL bM
        omega
      refine lc_tup (K := K) (a := t1) (xs := [.ref p, .ref q]) (fun i H' => Same H4 H' ∧ ∃ os : List Addr, os.length = i ∧ H' D = some (.lst (os.map V.ref)) ∧ ∀ j o, os[j]? = some o → o ≠ D ∧ ∃ us, H' o = some (.lst us) ∧ DpAll K H' us ((sel j).map runD))
        ⟨same_new hD, [], rfl, upd_same, fun j o z => by cases z⟩ (fun i H' _ z => SqT.of (z.1 _ _ hT1)) ?_ ?_
      · rintro j x H5 hx ⟨e5, os, hos, gD, hall⟩
        have hj : j < 2 := (List.getElem?_eq_some_iff.mp hx).1
        have e35 := f34.trans e5
        obtain ⟨pp, pz, n, us', l', rfl, hpp, hz, dd, hsel, hsn', hl'⟩ : ∃ (pp pz : Addr) (n : Nat) (us' : List V) (l' : List (Bool × Nat)), x = .ref pp ∧ H5 pp = some (.lst (.ref pz :: us')) ∧ SqT K H5 pz [.str (letS ca), .int (n : Int)] ∧ DpAll K H5 us' (l'.map runD) ∧ sel j = (if n > s then [(ca, n - s)] else []) ++ l' ∧ s ≤ n ∧ us'.length ≤ 8000 := by
          match j, hx with
          | 0, hx =>
            cases hx
            exact ⟨p, pa, na, us3, L', rfl, e35 _ _ hP3, seqT e35 ta, Dp.sameAll e35 (by cases dP3 with | cons _ h2 => exact h2), rfl, hsn, hl3.1⟩
          | 1, hx =>
            cases hx
            exact ⟨q, pb, nb, ws3, M', rfl, e35 _ _ hQ3, seqT e35 tb, Dp.sameAll e35 (by cases dQ3 with | cons _ h2 => exact h2), rfl, hsm, hl3.2⟩
        refine ⟨rfl, _, rfl, _, rfl, pp, _, _, _, rfl, rfl, SqL.of hpp, at0 _ _, pz, _, _, _, rfl, rfl, hz, at2_1 _ _, _, rfl, _, _, rfl, rfl, s2, fun t2 ht2 => ⟨s1, fun l1 hl1 => ?_⟩⟩
        have e6 := (same_new (o := .tup [.str (letS ca), .int ((n : Int) - (s : Int))]) ht2).trans (same_new (o := .lst [.ref t2]) hl1)
        have hL1 : (upd (upd H5 t2 (.tup [.str (letS ca), .int ((n : Int) - (s : Int))])) l1 (.lst [.ref t2])) l1 = some (.lst [.ref t2]) := upd_same
        have hT2 : (upd (upd H5 t2 (.tup [.str (letS ca), .int ((n : Int) - (s : Int))])) l1 (.lst [.ref t2])) t2 = some (.tup [.str (letS ca), .int ((n : Int) - (s : Int))]) := same_new hl1 _ _ upd_same
        generalize (upd (upd H5 t2 (.tup [.str (letS ca), .int ((n : Int) - (s : Int))])) l1 (.lst [.ref t2])) = H6 at *
        have kk : ∀ z : Bool, (if z = true then (1 : Int) else 0) = 1 ∨ (if z = true then (1 : Int) else 0) = 0 := fun z => by cases z; exact .inr rfl; exact .inl rfl
        have flat : (List.replicate (if decide ((s : Int) < (n : Int)) = true then (1 : Int) else 0).toNat [V.ref t2]).flatten = if n > s then [V.ref t2] else [] := by
          rw [ltn]
          by_cases z : s < n
          · rw [decide_eq_true z, if_pos rfl, if_pos z]; rfl
          · rw [decide_eq_false z, if_neg (by decide), if_neg z]; rfl
        refine ⟨_, rfl, pp, _, _, _, rfl, rfl, SqL.of (e6 _ _ hpp), at0 _ _, pz, _, _, _, rfl, rfl, seqT e6 hz, at2_1 _ _, _, rfl, _, _, rfl, rfl, .inr ⟨_, rfl, l1, _, [.ref t2], rfl, rfl, hL1, ?_, ?_, ?_, fun l2 hl2 => ?_⟩⟩
        · rcases kk (decide ((s : Int) < (n : Int))) with z | z <;> (rw [z]; decide)
        · rcases kk (decide ((s : Int) < (n : Int))) with z | z <;> (rw [z]; decide)
        · rcases kk (decide ((s : Int) < (n : Int))) with z | z
          · rw [z]; show (1 : Nat) * 1 ≤ sizeLine; decide
          · rw [z]; show (1 : Nat) * 0 ≤ sizeLine; decide
        rw [flat]
        have e7 := e6.trans (same_new (o := .lst (if n > s then [V.ref t2] else [])) hl2)
        refine ⟨_, rfl, 1, rfl, pp, _, rfl, SqL.of (e7 _ _ hpp), fun l3 hl3' => ?_⟩
        rw [cut_from1]
        have e8 := e7.trans (same_new (o := .lst (List.drop 1 (V.ref pz :: us'))) hl3')
        refine ⟨l2, l3, _, _, rfl, rfl, same_new hl3' _ _ upd_same, upd_same, ?_, fun l4 hl4 => ?_⟩
        · show (if n > s then [V.ref t2] else []).length + us'.length ≤ sizeLine
          by_cases z : n > s
          · rw [if_pos z]; exact sz (by simp; omega)
          · rw [if_neg z]; exact sz (by simp; omega)
        have e9 := e8.trans (same_new (o := .lst ((if n > s then [V.ref t2] else []) ++ List.drop 1 (V.ref pz :: us'))) hl4)
        have gD9 := e9 _ _ gD
        have n4D : l4 ≠ D := (ne_of_none (e8 _ _ gD) hl4).symm
        refine ⟨_, gD9, ?_, ?_⟩
        · rw [List.length_map, hos]
          exact szl (by omega)
        · have t9 : SameT (upd (upd (upd H6 l2 (.lst (if n > s then [V.ref t2] else []))) l3 (.lst (List.drop 1 (V.ref pz :: us')))) l4 (.lst ((if n > s then [V.ref t2] else []) ++ List.drop 1 (V.ref pz :: us')))) (upd (upd (upd (upd H6 l2 (.lst (if n > s then [V.ref t2] else []))) l3 (.lst (List.drop 1 (V.ref pz :: us')))) l4 (.lst ((if n > s then [V.ref t2] else []) ++ List.drop 1 (V.ref pz :: us')))) D (.lst (os.map V.ref ++ [V.ref l4]))) := .put gD9
          have hT9 := (((same_new hl2).trans ((same_new hl3').trans (same_new (o := .lst ((if n > s then [V.ref t2] else []) ++ List.drop 1 (V.ref pz :: us'))) hl4))) : Same H6 _) _ _ hT2
          refine ⟨same_mut (e5.trans e9) hD, os ++ [l4], by rw [List.length_append, hos]; rfl, by rw [upd_same, List.map_append]; rfl, fun j' o ho => ?_⟩
          by_cases cj : j' < os.length
          · rw [List.getElem?_append_left cj] at ho
            obtain ⟨nD, us0, h0, d0⟩ := hall j' o ho
            exact ⟨nD, us0, by rw [upd_ne nD]; exact e9 _ _ h0, Dp.sameTs t9 (noLs_map noL_runD _) (Dp.sameAll e9 d0)⟩
          · have hlt : j' < (os ++ [l4]).length := (List.getElem?_eq_some_iff.mp ho).1
            rw [List.length_append, List.length_singleton] at hlt
            have ej : j' = os.length := by omega
            subst ej
            rw [List.getElem?_concat_length] at ho
            cases ho
            refine ⟨n4D, (if n > s then [V.ref t2] else []) ++ us', by rw [upd_ne n4D, upd_same]; rfl, ?_⟩
            rw [hos, hsel, List.map_append]
            refine Dp.sameTs t9 ?_ (DpAll.append ?_ (Dp.sameAll e9 dd))
            · rw [← List.map_append]
              exact noLs_map noL_runD _
            · by_cases z : n > s
              · rw [if_pos z] at hT9
                rw [if_pos z, if_pos z]
                refine DpAll.one (.tup (SqT.of hT9) (.cons (.str _) (.cons ?_ .nil)))
                rw [show (n : Int) - (s : Int) = ((n - s : Nat) : Int) by omega]
                exact .int _
              · rw [if_neg z, if_neg z]
                exact .nil
      · rintro H5 ⟨e5, os, hos, gD, hall⟩
        match os, hos with
        | [o1, o2], _ =>
          obtain ⟨_, u1, h1, d1⟩ := hall 0 o1 rfl
          obtain ⟨_, u2, h2, d2⟩ := hall 1 o2 rfl
          refine ⟨_, rfl, D, _, _, _, rfl, rfl, SqL.of gD, at2_0 _ _, _, rfl, D, _, _, _, rfl, rfl, SqL.of gD, at2_1 _ _, s2, fun t ht => ?_⟩
          have e6 := same_new (o := .tup [.ref o1, .ref o2]) ht
          refine k t o1 o2 u1 u2 _ (e2.trans (f2.trans (f34.trans (e5.trans e6)))) upd_same (e6 _ _ h1) (e6 _ _ h2) ?_ ?_
          · rw [restOf, if_neg hne, if_neg (fun z => z rfl)]
            show DpAll K _ u1 (((if na > min na nb then [(ca, na - min na nb)] else []) ++ L').map runD)
            rw [← hs]
            exact Dp.sameAll e6 d1
          · rw [restOf, if_neg hne, if_neg (fun z => z rfl)]
            show DpAll K _ u2 (((if nb > min na nb then [(ca, nb - min na nb)] else []) ++ M').map runD)
            rw [← hs]
            exact Dp.sameAll e6 d2

/-! ### is_number -/
/-- by the value's type alone -/
def sp_is_number (K : PySem.W.Frag) : Sp := fun vs H Q _ => ∃ (v : V) (t : String) (b1 b2 : Bool), vs = [v] ∧ TyX K H v (.type t) ∧ kitB t "int" = some b1 ∧ kitB t "bool" = some b2 ∧ Q (.bl (b1 && !b2)) H
theorem sp_number_int {K : PySem.W.Frag} {H : Hp} {Q : VK} {E : XK} {i : Int} (q : Q (.bl true) H) : sp_is_number K [.int i] H Q E := ⟨_, "int", true, false, rfl, .base (.int i), by decide +kernel, by decide +kernel, q⟩

theorem sc_is_number : FnScope ["value"] ["value"] (defScope s_is_number) := ⟨rfl, rfl, rfl, by decide +kernel, rfl, by decide +kernel, by decide +kernel⟩
theorem ok_is_number (E : En K mg) : Good P w K mg base CX0 1 "is_number" ["value"] (sp_is_number K) := by
  obtain ⟨fd, F⟩ := E.says.def_ 2 (d := d_is_number) rfl
  refine ⟨fd, ?_, F.bindsN fun _ _ _ _ _ _ us hl => match us, hl with | [_], _ => rfl, F.kp, E.gl "is_number"⟩
  refine F.ok sc_is_number (fun vs H Q E' h => ?_) (fun cdv A outer s H vs Q E' hr h => ?_)
  · obtain ⟨v, t, b1, b2, rfl, _⟩ := h; rfl
  · have hu64 := hu64_of hr
    refine ⟨_, PSs.nox (pss_one (ps_ret (pe_and (pe_callB call_isi (by rfl) (E.fr "isinstance") (by decide +kernel) (pa_cons (pv 0) (pa_cons (pe_bltn (v := .ty "int") (by rfl) (E.fr "int") (by decide +kernel) rfl) pa_nil))) (pe_one (pe_not (pe_callB call_isi (by rfl) (E.fr "isinstance") (by decide +kernel) (pa_cons (pv 0) (pa_cons (pe_bltn (v := .ty "bool") (by rfl) (E.fr "bool") (by decide +kernel) rfl) pa_nil)))))))), ?_⟩
    obtain ⟨v, t, b1, b2, rfl, T, e1, e2, k⟩ := h
    refine ⟨_, rfl, _, _, _, _, _, rfl, .ty _, T, kit_ty e1, _, rfl, ?_⟩
    cases b1 with
    | false => exact ite_f rfl k
    | true => exact ite_t rfl ⟨_, rfl, _, _, _, _, _, rfl, .ty _, T, kit_ty e2, _, rfl, k⟩

/-! ### is_pair -/
/-- a pair of numbers from 0 on that are not both 0 -/
def sp_is_pair (K : PySem.W.Frag) : Sp := fun vs H Q _ => ∃ (v : V) (x y : Nat), vs = [v] ∧ PairAt K H v x y ∧ ¬ (x = 0 ∧ y = 0) ∧ ∀ H', Same H H' → Q (.bl true) H'

theorem sc_is_pair : FnScope ["value"] ["value"] (defScope s_is_pair) := ⟨rfl, rfl, rfl, by decide +kernel, rfl, by decide +kernel, by decide +kernel⟩
theorem ok_is_pair (E : En K mg) (G_is_number : Good P w K mg base CX0 1 "is_number" ["value"] (sp_is_number K)) : Good P w K mg base CX0 2 "is_pair" ["value"] (sp_is_pair K) := by
  obtain ⟨fd, F⟩ := E.says.def_ 3 (d := d_is_pair) rfl
  refine ⟨fd, ?_, F.bindsN fun _ _ _ _ _ _ us hl => match us, hl with | [_], _ => rfl, F.kp, E.gl "is_pair"⟩
  refine F.ok sc_is_pair (fun vs H Q E' h => ?_) (fun cdv A outer s H vs Q E' hr h => ?_)
  · obtain ⟨v, x, y, rfl, _⟩ := h; rfl
  · have hu64 := hu64_of hr
    refine ⟨_, PSs.nox (pss_cons (ps_if (PW.pt (pw_or (pt_not (pt_val (pe_callB call_isi (by rfl) (E.fr "isinstance") (by decide +kernel) (pa_cons (pv 0) (pa_cons (pe_bltn (v := .ty "tuple") (by rfl) (E.fr "tuple") (by decide +kernel) rfl) pa_nil))))) (pw_or (pt_cmpR op_ne (pe_callB call_len_seq (by rfl) (E.fr "len") (by decide +kernel) (pa_cons (pv 0) pa_nil)) pe_int (nomark _)) (pw_or (pt_not (pt_val (pe_G G_is_number (hr.mono (by decide)) rfl pass0 (pa_cons (pe_ix ix_tup (pv 0) pe_int (fun _ _ => rfl)) pa_nil)))) (pw_or1 (pt_not (pt_val (pe_G G_is_number (hr.mono (by decide)) rfl pass0 (pa_cons (pe_ix ix_tup (pv 0) pe_int (fun _ _ => rfl)) pa_nil)))))))))
        (pss_one (ps_ret pe_bl))
        pss_nil)
      (pss_one (ps_ret (pe_and (pe_cmpR op_ge (pe_ix ix_tup (pv 0) pe_int (fun _ _ => rfl)) pe_int (nomark _)) (pe_and (pe_cmpR op_ge (pe_ix ix_tup (pv 0) pe_int (fun _ _ => rfl)) pe_int (nomark _)) (pe_one (pe_cmpR (op_neD hu64) (pv 0) (pe_tup (pa_cons pe_int (pa_cons pe_int pa_nil))) (nomark _)))))))), ?_⟩
    obtain ⟨v, x, y, rfl, ⟨a, rfl, hS⟩, n0, k⟩ := h
    have hT := tyT hS
    -- not a tuple or ..
    refine ⟨_, rfl, _, _, _, _, true, rfl, .ty _, hT, kit_ty (by decide +kernel), _, rfl, ?_⟩
    refine ite_f rfl ⟨_, rfl, a, _, rfl, .inr hS, rfl, _, rfl, ?_⟩
    refine ite_f rfl ⟨_, rfl, a, _, _, _, rfl, rfl, hS, at2_0 _ _, _, "int", true, false, rfl, .base (.int _), by decide +kernel, by decide +kernel, _, rfl, ?_⟩
    refine ite_f rfl ⟨_, rfl, a, _, _, _, rfl, rfl, hS, at2_1 _ _, _, "int", true, false, rfl, .base (.int _), by decide +kernel, by decide +kernel, _, rfl, ?_⟩
    refine ite_f rfl ?_
    -- value[0] >= 0 and value[1] >= 0 and value != (0, 0)
    refine ⟨_, rfl, a, _, _, _, rfl, rfl, hS, at2_0 _ _, _, _, rfl, rfl, _, rfl, ?_⟩
    refine ite_t (decide_eq_true (by show (0 : Int) ≤ (x : Int); omega)) ⟨_, rfl, a, _, _, _, rfl, rfl, hS, at2_1 _ _, _, _, rfl, rfl, _, rfl, ?_⟩
    refine ite_t (decide_eq_true (by show (0 : Int) ≤ (y : Int); omega)) ⟨_, rfl, (by show 2 ≤ sizeLine; decide), fun p hp => ?_⟩
    have e := same_new (o := .tup [.int 0, .int 0]) hp
    have ne : PyData.eqv (.tuple [.int (x : Int), .int (y : Int)]) (.tuple [.int 0, .int 0]) = false := by
      simp [PyData.eqv, PyData.eqvAll]
      omega
    refine ⟨.tuple [.int (x : Int), .int (y : Int)], .tuple [.int 0, .int 0], .tup (seqT e hS) (.cons (.int _) (.cons (.int _) .nil)), .tup (SqT.of upd_same) (.cons (.int _) (.cons (.int _) .nil)), by rfl, by rfl, ?_⟩
    show Q (.bl (!PyData.eqv _ _)) _
    rw [ne]
    exact k _ e

/-! ### need_pair -/
def sp_need_pair (K : PySem.W.Frag) : Sp := fun vs H Q _ => ∃ (v : V) (x y : Nat), vs = [v] ∧ PairAt K H v x y ∧ ¬ (x = 0 ∧ y = 0) ∧ ∀ H', Same H H' → Q .non H'

theorem sc_need_pair : FnScope ["value"] ["value"] (defScope s_need_pair) := ⟨rfl, rfl, rfl, by decide +kernel, rfl, by decide +kernel, by decide +kernel⟩
theorem ok_need_pair (E : En K mg) (G_is_pair : Good P w K mg base CX0 2 "is_pair" ["value"] (sp_is_pair K)) : Good P w K mg base CX0 3 "need_pair" ["value"] (sp_need_pair K) := by
  obtain ⟨fd, F⟩ := E.says.def_ 4 (d := d_need_pair) rfl
  refine ⟨fd, ?_, F.bindsN fun _ _ _ _ _ _ us hl => match us, hl with | [_], _ => rfl, F.kp, E.gl "need_pair"⟩
  refine F.ok sc_need_pair (fun vs H Q E' h => ?_) (fun cdv A outer s H vs Q E' hr h => ?_)
  · obtain ⟨v, x, y, rfl, _⟩ := h; rfl
  · have hu64 := hu64_of hr
    refine ⟨_, PSs.nox (pss_one (ps_if (pt_not (pt_val (pe_G G_is_pair (hr.mono (by decide)) rfl pass0 (pa_cons (pv 0) pa_nil))))
        (pss_one ps_never)
        pss_nil)), ?_⟩
    obtain ⟨v, x, y, rfl, hP, n0, k⟩ := h
    refine ⟨_, rfl, v, x, y, rfl, hP, n0, fun H' e => ⟨true, rfl, ?_⟩⟩
    exact ite_f rfl (k H' e)

/-! ### bottom -/
def sp_bottom (K : PySem.W.Frag) : Sp := fun vs H Q _ => ∃ (v : V) (x y : Nat), vs = [v] ∧ PairAt K H v x y ∧ ¬ (x = 0 ∧ y = 0) ∧ ∀ H', Same H H' → Q (.str (bot x y)) H'

theorem sc_bottom : FnScope ["pair"] ["pair"] (defScope s_bottom) := ⟨rfl, rfl, rfl, by decide +kernel, rfl, by decide +kernel, by decide +kernel⟩
theorem ok_bottom (E : En K mg) (G_need_pair : Good P w K mg base CX0 3 "need_pair" ["value"] (sp_need_pair K)) : Good P w K mg base CX0 4 "bottom" ["pair"] (sp_bottom K) := by
  obtain ⟨fd, F⟩ := E.says.def_ 5 (d := d_bottom) rfl
  refine ⟨fd, ?_, F.bindsN fun _ _ _ _ _ _ us hl => match us, hl with | [_], _ => rfl, F.kp, E.gl "bottom"⟩
  refine F.ok sc_bottom (fun vs H Q E' h => ?_) (fun cdv A outer s H vs Q E' hr h => ?_)
  · obtain ⟨v, x, y, rfl, _⟩ := h; rfl
  · have hu64 := hu64_of hr
    refine ⟨_, PSs.nox (pss_cons (ps_expr (pe_G G_need_pair (hr.mono (by decide)) rfl pass0 (pa_cons (pv 0) pa_nil)))
      (pss_cons (ps_if (pt_cmpR op_eq (pe_ix ix_tup (pv 0) pe_int (fun _ _ => rfl)) pe_int (nomark _))
        (pss_one (ps_ret pe_str))
        pss_nil)
      (pss_one (ps_ret (pe_ifExp (pt_cmpR op_eq (pe_ix ix_tup (pv 0) pe_int (fun _ _ => rfl)) pe_int (nomark _)) pe_str pe_str))))), ?_⟩
    obtain ⟨v, x, y, rfl, hP, n0, k⟩ := h
    refine ⟨_, rfl, v, x, y, rfl, hP, n0, fun H' e => ?_⟩
    obtain ⟨a, rfl, hS⟩ := hP
    refine ⟨_, rfl, a, _, _, _, rfl, rfl, seqT e hS, at2_1 _ _, rfl, _, rfl, ?_⟩
    have q := k H' e
    unfold bot at q
    by_cases hy : y = 0
    · rw [if_pos hy] at q
      exact ite_t (deq (by omega)) q
    · rw [if_neg hy] at q
      refine ite_f (dne (by omega)) ⟨_, rfl, a, _, _, _, rfl, rfl, seqT e hS, at2_0 _ _, rfl, _, rfl, ?_⟩
      by_cases hx : x = 0
      · rw [if_pos hx] at q
        exact ite_t (deq (by omega)) q
      · rw [if_neg hx] at q
        exact ite_f (dne (by omega)) q

/-! ### common_divisor -/
def sp_common_divisor (K : PySem.W.Frag) : Sp := fun vs H Q _ => ∃ x y : Nat, vs = [.int (x : Int), .int (y : Int)] ∧ Q (.int ((Nat.gcd x y : Nat) : Int)) H

theorem sc_common_divisor : FnScope ["one", "other"] ["one", "other"] (defScope s_common_divisor) := ⟨rfl, rfl, rfl, by decide +kernel, rfl, by decide +kernel, by decide +kernel⟩
theorem ok_common_divisor (E : En K mg) : Good P w K mg base CX0 1 "common_divisor" ["one", "other"] (sp_common_divisor K) := by
  obtain ⟨fd, F⟩ := E.says.def_ 6 (d := d_common_divisor) rfl
  refine ⟨fd, ?_, F.bindsN fun _ _ _ _ _ _ us hl => match us, hl with | [_, _], _ => rfl, F.kp, E.gl "common_divisor"⟩
  refine F.ok sc_common_divisor (fun vs H Q E' h => ?_) (fun cdv A outer s H vs Q E' hr h => ?_)
  · obtain ⟨x, y, rfl, _⟩ := h; rfl
  · have hu64 := hu64_of hr
    refine ⟨_, PSs.nox (pss_cons (ps_while PassesOwn.never (pt_cmpR op_ne (pv 1) pe_int (nomark _))
        (pss_one (ps_par (i := 0) (j := 1) rfl sc_common_divisor.nd rfl rfl (by decide) rfl rfl (pa_cons (pv 1) (pa_cons (pe_op op_mod (pv 0) (pv 1)) pa_nil)) rfl)))
      (pss_one (ps_ret (pv 0)))), ?_⟩
    obtain ⟨x, y, rfl, k⟩ := h
    refine ⟨fun m σ H' => ∃ a b : Nat, m = b ∧ σ = [some (.int (a : Int)), some (.int (b : Int))] ∧ H' = H ∧ Nat.gcd a b = Nat.gcd x y, ⟨y, x, y, rfl, rfl, rfl, rfl⟩, ?_⟩
    rintro m σ H' ⟨a, b, rfl, rfl, rfl, hg⟩
    refine ⟨_, rfl, rfl, _, rfl, ?_⟩
    refine ite2 (fun c => ?_) (fun c => ?_)
    · have c' : (0 : Int) < (m : Int) := by
        have q : ¬ (m : Int) = 0 := fun e => by rw [e] at c; cases c
        omega
      refine ⟨fun σ' H'' => ∃ m', m' < m ∧ ∃ a b : Nat, m' = b ∧ σ' = [some (.int (a : Int)), some (.int (b : Int))] ∧ H'' = H' ∧ Nat.gcd a b = Nat.gcd x y, fun _ _ q => q, ?_⟩
      refine ⟨_, rfl, _, rfl, _, rfl, _, _, rfl, rfl, c', _, _, rfl, ?_⟩
      refine ⟨a % m, Nat.mod_lt _ (by omega), m, a % m, rfl, ?_, rfl, ?_⟩
      · show [some (V.int (m : Int)), some (V.int ((a : Int) % (m : Int)))] = _
        rw [Int.natCast_emod]
      · rw [← hg, Nat.gcd_comm m, Nat.gcd_comm a m, ← Nat.gcd_rec]
    · have e : m = 0 := by
        by_cases z : (m : Int) = 0
        · omega
        · exact absurd (by rw [dne z]; rfl) c
      subst e
      rw [Nat.gcd_zero_right] at hg
      refine ⟨_, rfl, ?_⟩
      show Q (.int (a : Int)) H'
      rw [hg]
      exact k

/-! ### divisor -/
def sp_divisor (K : PySem.W.Frag) : Sp := fun vs H Q _ => ∃ (v : V) (x y : Nat), vs = [v] ∧ PairAt K H v x y ∧ ¬ (x = 0 ∧ y = 0) ∧ ∀ H', Same H H' → Q (.int ((Nat.gcd x y : Nat) : Int)) H'

theorem sc_divisor : FnScope ["pair"] ["pair"] (defScope s_divisor) := ⟨rfl, rfl, rfl, by decide +kernel, rfl, by decide +kernel, by decide +kernel⟩
theorem ok_divisor (E : En K mg) (G_common_divisor : Good P w K mg base CX0 1 "common_divisor" ["one", "other"] (sp_common_divisor K)) (G_need_pair : Good P w K mg base CX0 3 "need_pair" ["value"] (sp_need_pair K)) : Good P w K mg base CX0 4 "divisor" ["pair"] (sp_divisor K) := by
  obtain ⟨fd, F⟩ := E.says.def_ 7 (d := d_divisor) rfl
  refine ⟨fd, ?_, F.bindsN fun _ _ _ _ _ _ us hl => match us, hl with | [_], _ => rfl, F.kp, E.gl "divisor"⟩
  refine F.ok sc_divisor (fun vs H Q E' h => ?_) (fun cdv A outer s H vs Q E' hr h => ?_)
  · obtain ⟨v, x, y, rfl, _⟩ := h; rfl
  · have hu64 := hu64_of hr
    refine ⟨_, PSs.nox (pss_cons (ps_expr (pe_G G_need_pair (hr.mono (by decide)) rfl pass0 (pa_cons (pv 0) pa_nil)))
      (pss_one (ps_ret (pe_G G_common_divisor (hr.mono (by decide)) rfl pass0 (pa_cons (pe_ix ix_tup (pv 0) pe_int (fun _ _ => rfl)) (pa_cons (pe_ix ix_tup (pv 0) pe_int (fun _ _ => rfl)) pa_nil)))))), ?_⟩
    obtain ⟨v, x, y, rfl, hP, n0, k⟩ := h
    refine ⟨_, rfl, v, x, y, rfl, hP, n0, fun H' e => ?_⟩
    obtain ⟨a, rfl, hS⟩ := hP
    refine ⟨_, rfl, a, _, _, _, rfl, rfl, seqT e hS, at2_0 _ _, _, rfl, a, _, _, _, rfl, rfl, seqT e hS, at2_1 _ _, x, y, rfl, k H' e⟩

/-! ### runs -/
def sp_runs (K : PySem.W.Frag) : Sp := fun vs H Q _ => ∃ (v : V) (x y : Nat), vs = [v] ∧ PairAt K H v x y ∧ okP x y ∧
  ∀ (f : Addr) (us : List V) (H' : Hp), H f = none → Same H H' → H' f = some (.lst us) → DpAll K H' us ((R x y).map runD) → Q (.ref f) H'

theorem sc_runs : FnScope ["pair", "x", "y", "found", "count"] ["pair"] (defScope s_runs) := ⟨rfl, rfl, rfl, by decide +kernel, rfl, by decide +kernel, by decide +kernel⟩
theorem ok_runs (E : En K mg) (G_need_pair : Good P w K mg base CX0 3 "need_pair" ["value"] (sp_need_pair K)) : Good P w K mg base CX0 4 "runs" ["pair"] (sp_runs K) := by
  obtain ⟨fd, F⟩ := E.says.def_ 8 (d := d_runs) rfl
  refine ⟨fd, ?_, F.bindsN fun _ _ _ _ _ _ us hl => match us, hl with | [_], _ => rfl, F.kp, E.gl "runs"⟩
  refine F.ok sc_runs (fun vs H Q E' h => ?_) (fun cdv A outer s H vs Q E' hr h => ?_)
  · obtain ⟨v, x, y, rfl, _⟩ := h; rfl
  · have hu64 := hu64_of hr
    refine ⟨_, PSs.nox (pss_cons (ps_expr (pe_G G_need_pair (hr.mono (by decide)) rfl pass0 (pa_cons (pv 0) pa_nil)))
      (pss_cons (ps_asg (pv 0) (pg_tup rfl (pgs_cons (pg_name (i := 1) sc_runs.nd rfl (by first | exact Or.inl rfl | exact Or.inr rfl)) (pgs_cons (pg_name (i := 2) sc_runs.nd rfl (by first | exact Or.inl rfl | exact Or.inr rfl)) pgs_nil))))
      (pss_cons (ps_set (i := 3) sc_runs.nd rfl (by first | exact Or.inl rfl | exact Or.inr rfl) (pe_lst pa_nil))
      (pss_cons (ps_while PassesOwn.never (PW.pt (pw_and (pt_cmpR op_ne (pv 1) (pv 2) (nomark _)) (pw_and (pt_cmpR op_gt (pv 1) pe_int (nomark _)) (pw_and1 (pt_cmpR op_gt (pv 2) pe_int (nomark _))))))
        (pss_one (ps_if (pt_cmpR op_gt (pv 1) (pv 2) (nomark _))
        (pss_cons (ps_set (i := 4) sc_runs.nd rfl (by first | exact Or.inl rfl | exact Or.inr rfl) (pe_op op_fdivW (pe_op op_sub (pv 1) pe_int) (pv 2)))
      (pss_cons (ps_expr (pe_bm PySem.F.plainAttrs_list PySem.F.slot_list_append PySem.F.type_list_append mt_append (pv 3) (pa_cons (pe_tup (pa_cons pe_str (pa_cons (pv 4) pa_nil))) pa_nil)))
      (pss_one (ps_set (i := 1) sc_runs.nd rfl (by first | exact Or.inl rfl | exact Or.inr rfl) (pe_op op_sub (pv 1) (pe_op op_mulW (pv 4) (pv 2)))))))
        (pss_cons (ps_set (i := 4) sc_runs.nd rfl (by first | exact Or.inl rfl | exact Or.inr rfl) (pe_op op_fdivW (pe_op op_sub (pv 2) pe_int) (pv 1)))
      (pss_cons (ps_expr (pe_bm PySem.F.plainAttrs_list PySem.F.slot_list_append PySem.F.type_list_append mt_append (pv 3) (pa_cons (pe_tup (pa_cons pe_str (pa_cons (pv 4) pa_nil))) pa_nil)))
      (pss_one (ps_set (i := 2) sc_runs.nd rfl (by first | exact Or.inl rfl | exact Or.inr rfl) (pe_op op_sub (pv 2) (pe_op op_mulW (pv 4) (pv 1))))))))))
      (pss_one (ps_ret (pv 3))))))), ?_⟩
    obtain ⟨v, x, y, rfl, hP, ok, k⟩ := h
    refine ⟨_, rfl, v, x, y, rfl, hP, ok.1, fun H1 e1 => ?_⟩
    obtain ⟨a, rfl, hS⟩ := hP
    refine ⟨_, rfl, a, _, rfl, seqT e1 hS, rfl, _, _, rfl, _, _, rfl, rfl, (by show 0 ≤ sizeLine; decide), fun f hf => ?_⟩
    have hf0 : H f = none := Same.free e1 hf
    refine ⟨fun m σ H' => ∃ (i j : Nat) (acc : List (Bool × Nat)) (us : List V) (c : Option V), m = i + j ∧ σ = [some (.ref a), some (.int (i : Int)), some (.int (j : Int)), some (.ref f), c] ∧ acc ++ R i j = R x y ∧ i < 2 ^ 4000 ∧ j < 2 ^ 4000 ∧ Same H H' ∧ H' f = some (.lst us) ∧ DpAll K H' us (acc.map runD),
      ⟨x + y, x, y, [], [], none, rfl, rfl, rfl, ok.2.1, ok.2.2, same_mut e1 hf0, upd_same, .nil⟩, ?_⟩
    rintro m σ H' ⟨i, j, acc, us, c, rfl, rfl, hR, hi, hj, e, hF, hD⟩
    have fin : R i j = [] → Q (.ref f) H' := fun z => by
      rw [z, List.append_nil] at hR
      rw [hR] at hD
      exact k f us H' hf0 e hF hD
    have hlen : us.length < sizeLine := by
      have h1 := DpAll.length hD
      rw [List.length_map] at h1
      have h2 := R_len' ok
      rw [← hR, List.length_append] at h2
      exact szl (by omega)
    -- the turn's end: a run more
    have more : ∀ (b : Bool) (n i' j' : Nat) (p : Addr), H' p = none → i' + j' < i + j → R i j = (b, n) :: R i' j' → i' < 2 ^ 4000 → j' < 2 ^ 4000 → ∀ c' : Option V,
        ∃ m', m' < i + j ∧ ∃ (i j : Nat) (acc : List (Bool × Nat)) (us' : List V) (c : Option V), m' = i + j ∧ [some (V.ref a), some (.int (i' : Int)), some (.int (j' : Int)), some (.ref f), c'] = [some (.ref a), some (.int (i : Int)), some (.int (j : Int)), some (.ref f), c] ∧ acc ++ R i j = R x y ∧ i < 2 ^ 4000 ∧ j < 2 ^ 4000 ∧ Same H (upd (upd H' p (.tup [.str (letS b), .int (n : Int)])) f (.lst (us ++ [.ref p]))) ∧ (upd (upd H' p (.tup [.str (letS b), .int (n : Int)])) f (.lst (us ++ [.ref p]))) f = some (.lst us') ∧ DpAll K (upd (upd H' p (.tup [.str (letS b), .int (n : Int)])) f (.lst (us ++ [.ref p]))) us' (acc.map runD) := fun b n i' j' p hp hm hr h1 h2 c' => by
      have nf : f ≠ p := ne_of_none hF hp
      have hF2 : (upd H' p (.tup [.str (letS b), .int (n : Int)])) f = some (.lst us) := by rw [upd_ne nf]; exact hF
      have t1 : SameT H' (upd (upd H' p (.tup [.str (letS b), .int (n : Int)])) f (.lst (us ++ [.ref p]))) := (SameT.new hp).trans (.put hF2)
      refine ⟨i' + j', hm, i', j', acc ++ [(b, n)], us ++ [.ref p], c', rfl, rfl, ?_, h1, h2, same_mut (e.trans (same_new hp)) hf0, upd_same, ?_⟩
      · rw [List.append_assoc, ← hR, hr]
        rfl
      · rw [List.map_append]
        refine DpAll.append (Dp.sameTs t1 (noLs_map noL_runD acc) hD) (DpAll.one (.tup (SqT.of ?_) (.cons (.str _) (.cons (.int _) .nil))))
        rw [upd_ne nf.symm, upd_same]
    -- while x != y and x > 0 and y > 0
    refine ⟨_, rfl, _, rfl, rfl, _, rfl, ?_⟩
    by_cases c1 : i = j
    · refine ite_f (by rw [deq (by omega)]; rfl) (ite_f rfl ⟨_, rfl, fin (R_nil (by omega))⟩)
    refine ite_t (by rw [dne (by omega)]; rfl) ⟨_, rfl, _, _, rfl, rfl, _, rfl, ?_⟩
    by_cases c2 : 0 < i
    rotate_left
    · exact ite_f (decide_eq_false (by omega)) (ite_f rfl ⟨_, rfl, fin (R_nil (by omega))⟩)
    refine ite_t (decide_eq_true (by omega)) ⟨_, rfl, _, _, rfl, rfl, _, rfl, ?_⟩
    by_cases c3 : 0 < j
    rotate_left
    · exact ite_f (decide_eq_false (by omega)) ⟨_, rfl, fin (R_nil (by omega))⟩
    refine ite_t (decide_eq_true (by omega)) ⟨fun σ' H'' => ∃ m', m' < i + j ∧ ∃ (i j : Nat) (acc : List (Bool × Nat)) (us : List V) (c : Option V), m' = i + j ∧ σ' = [some (.ref a), some (.int (i : Int)), some (.int (j : Int)), some (.ref f), c] ∧ acc ++ R i j = R x y ∧ i < 2 ^ 4000 ∧ j < 2 ^ 4000 ∧ Same H H'' ∧ H'' f = some (.lst us) ∧ DpAll K H'' us (acc.map runD), fun _ _ q => q, ?_⟩
    -- if x > y
    refine ⟨_, rfl, _, rfl, _, _, rfl, rfl, _, rfl, ?_⟩
    refine ite2 (fun c4 => ?_) (fun c4 => ?_)
    · have c5 : i > j := by
        have q : (j : Int) < (i : Int) := of_decide_eq_true c4
        omega
      have d := dm_lt c3 c5
      have hq : (i - 1) / j < 2 ^ 4000 := Nat.lt_of_le_of_lt (Nat.le_trans (Nat.div_le_self _ _) (Nat.sub_le _ _)) hi
      refine ⟨_, rfl, _, _, rfl, rfl, _, rfl, _, _, rfl, rfl, okDiv c3 hj, ?_⟩
      dsimp only; rw [cast_div c2]
      refine ⟨_, rfl, .inl ⟨rfl, _, SqL.of hF⟩, _, rfl, (by show 2 ≤ sizeLine; decide), fun p hp => ?_⟩
      have nf : f ≠ p := ne_of_none hF hp
      refine ⟨f, us, .ref p, rfl, rfl, (by rw [upd_ne nf]; exact hF), hlen, ?_⟩
      refine ⟨_, rfl, _, rfl, _, rfl, _, _, rfl, rfl, okMul hq hj, _, _, rfl, rfl, ?_⟩
      dsimp only; rw [cast_sub]
      exact more true ((i - 1) / j) _ j p hp (by omega) (R_x c3 c5) (Nat.lt_trans d.1 hi) hj _
    · have c5 : j > i := by
        have q : ¬ (j : Int) < (i : Int) := of_decide_eq_false (Bool.eq_false_iff.mpr c4)
        omega
      have d := dm_lt c2 c5
      have hq : (j - 1) / i < 2 ^ 4000 := Nat.lt_of_le_of_lt (Nat.le_trans (Nat.div_le_self _ _) (Nat.sub_le _ _)) hj
      refine ⟨_, rfl, _, _, rfl, rfl, _, rfl, _, _, rfl, rfl, okDiv c2 hi, ?_⟩
      dsimp only; rw [cast_div c3]
      refine ⟨_, rfl, .inl ⟨rfl, _, SqL.of hF⟩, _, rfl, (by show 2 ≤ sizeLine; decide), fun p hp => ?_⟩
      have nf : f ≠ p := ne_of_none hF hp
      refine ⟨f, us, .ref p, rfl, rfl, (by rw [upd_ne nf]; exact hF), hlen, ?_⟩
      refine ⟨_, rfl, _, rfl, _, rfl, _, _, rfl, rfl, okMul hq hi, _, _, rfl, rfl, ?_⟩
      dsimp only; rw [cast_sub]
      exact more false ((j - 1) / i) i _ p hp (by omega) (R_y c2 c5) hi (Nat.lt_trans d.1 hj) _

/-! ### way -/
/-- the way as a new list of moves; None for unlike divisors -/
def sp_way (K : PySem.W.Frag) : Sp := fun vs H Q _ => ∃ (v1 v2 : V) (x y u w : Nat), vs = [v1, v2] ∧ PairAt K H v1 x y ∧ PairAt K H v2 u w ∧ okP x y ∧ okP u w ∧
  (Nat.gcd x y ≠ Nat.gcd u w → ∀ H', Same H H' → Q .non H') ∧
  (Nat.gcd x y = Nat.gcd u w → ∀ (f : Addr) (us : List V) (H' : Hp), H f = none → Same H H' → H' f = some (.lst us) → DpAll K H' us ((wayM x y u w).map mvD) → Q (.ref f) H')
theorem DpAll.rev {K : PySem.W.Frag} {H : Hp} : ∀ {ds : List PyData} {vs : List V}, DpAll K H vs ds → DpAll K H vs.reverse ds.reverse
  | [], _, h => by cases h; exact .nil
  | _ :: _, _, h => by
    cases h with
    | cons h1 h2 =>
      rw [List.reverse_cons, List.reverse_cons]
      exact DpAll.append (DpAll.rev h2) (DpAll.one h1)
/-- the axes by the letters -/
def axesKV : List (Key × V) := [(Sum.inr "X", V.str "x"), (Sum.inr "Y", V.str "y")]
theorem axes_at (c : Bool) : valV axesKV (Sum.inr (letS c)) = some (.str (if c then "x" else "y")) := by
  cases c <;> decide +kernel

theorem sc_way : FnScope ["one", "other", "left", "right", "start", "end", "axes", "moves", "letter", "count"] ["one", "other"] (defScope s_way) := ⟨rfl, rfl, rfl, by decide +kernel, rfl, by decide +kernel, by decide +kernel⟩
theorem ok_way (E : En K mg) (G_merged : Good P w K mg base CX0 1 "merged" ["moves"] (sp_merged K)) (G_rest_of : Good P w K mg base CX0 1 "rest_of" ["left", "right"] (sp_rest_of K)) (G_bottom : Good P w K mg base CX0 4 "bottom" ["pair"] (sp_bottom K)) (G_divisor : Good P w K mg base CX0 4 "divisor" ["pair"] (sp_divisor K)) (G_runs : Good P w K mg base CX0 4 "runs" ["pair"] (sp_runs K)) : GoodD P w K mg base CX0 5 d_way "way" ["one", "other"] (sp_way K) := by
  obtain ⟨fd, F⟩ := E.says.def_ 9 (d := d_way) rfl
  refine ⟨fd, ?_, F.bindsN fun _ _ _ _ _ _ us hl => match us, hl with | [_, _], _ => rfl, F.kp, E.gl "way", F⟩
  refine F.ok sc_way (fun vs H Q E' h => ?_) (fun cdv A outer s H vs Q E' hr h => ?_)
  · obtain ⟨v1, v2, x, y, u, w, rfl, _⟩ := h; rfl
  · have hu64 := hu64_of hr
    refine ⟨_, PSs.nox (pss_cons (ps_par (i := 2) (j := 3) rfl sc_way.nd rfl rfl (by decide) rfl rfl (pa_cons (pe_revL (pe_G G_runs (hr.mono (by decide)) rfl pass0 (pa_cons (pv 0) pa_nil))) (pa_cons (pe_revL (pe_G G_runs (hr.mono (by decide)) rfl pass0 (pa_cons (pv 1) pa_nil))) pa_nil)) rfl)
      (pss_cons (ps_if (pt_cmpR op_ne (pe_G G_divisor (hr.mono (by decide)) rfl pass0 (pa_cons (pv 0) pa_nil)) (pe_G G_divisor (hr.mono (by decide)) rfl pass0 (pa_cons (pv 1) pa_nil)) (nomark _))
        (pss_one (ps_ret pe_non))
        pss_nil)
      (pss_cons (ps_par (i := 4) (j := 5) rfl sc_way.nd rfl rfl (by decide) rfl rfl (pa_cons (pe_G G_bottom (hr.mono (by decide)) rfl pass0 (pa_cons (pv 0) pa_nil)) (pa_cons (pe_G G_bottom (hr.mono (by decide)) rfl pass0 (pa_cons (pv 1) pa_nil)) pa_nil)) rfl)
      (C8.pss_cut (ps_if (pt_cmpR op_eq (pv 4) (pv 5) (nomark _))
        (pss_one (ps_asg (pe_G G_rest_of (hr.mono (by decide)) rfl pass0 (pa_cons (pv 2) (pa_cons (pv 3) pa_nil))) (pg_tup rfl (pgs_cons (pg_name (i := 2) sc_way.nd rfl (by first | exact Or.inl rfl | exact Or.inr rfl)) (pgs_cons (pg_name (i := 3) sc_way.nd rfl (by first | exact Or.inl rfl | exact Or.inr rfl)) pgs_nil)))))
        pss_nil)
      (pss_cons (ps_set (i := 6) sc_way.nd rfl (by first | exact Or.inl rfl | exact Or.inr rfl) (pe_disp (pps_cons pe_str pe_str (pps_cons pe_str pe_str pps_nil)) (by rfl) (by rfl) (fun z => by cases z) (by decide)))
      (pss_cons (ps_setLc (i := 7) (own := [("letter", 8), ("count", 9)]) (by rfl) sc_way.nd rfl rfl (sw_true rfl rfl rfl (by decide +kernel)) (pi_list (pe_revL (pv 2))) (blkOk_by (N := ["one", "other", "left", "right", "start", "end", "axes", "moves", "letter", "count"]) (sc := defScope s_way) (by decide +kernel)) (by exact fun _ _ _ _ _ => (show PG _ _ (gTup K 2 _) from pg_tup (n := 2) rfl (pgs_cons (pg_name (i := 8) sc_way.nd rfl (by first | exact Or.inl rfl | exact Or.inr rfl)) (pgs_cons (pg_name (i := 9) sc_way.nd rfl (by first | exact Or.inl rfl | exact Or.inr rfl)) pgs_nil)))) (by exact fun _ _ _ _ _ => pts_nil) (by exact fun _ _ _ _ _ => (pe_tup (pa_cons pe_str (pa_cons (pe_dget (hu_of hr) (pv 6) (pv 8) (fun _ _ => rfl)) (pa_cons (pv 9) pa_nil))))))
      (C8.pss_cut (ps_if (PW.pt (pw_and (pt_cmpR op_ne (pv 4) (pv 5) (nomark _)) (pw_and1 (pt_cmpR op_ne (pv 4) pe_str (nomark _)))))
        (pss_one (ps_expr (pe_bm PySem.F.plainAttrs_list PySem.F.slot_list_append PySem.F.type_list_append mt_append (pv 7) (pa_cons (pe_tup (pa_cons pe_str (pa_cons (pe_ifExp (pt_cmpR op_eq (pv 4) pe_str (nomark _)) pe_str pe_str) (pa_cons pe_int pa_nil)))) pa_nil))))
        pss_nil)
      (C8.pss_cut (ps_if (PW.pt (pw_and (pt_cmpR op_ne (pv 4) (pv 5) (nomark _)) (pw_and1 (pt_cmpR op_ne (pv 5) pe_str (nomark _)))))
        (pss_one (ps_expr (pe_bm PySem.F.plainAttrs_list PySem.F.slot_list_append PySem.F.type_list_append mt_append (pv 7) (pa_cons (pe_tup (pa_cons pe_str (pa_cons (pe_ifExp (pt_cmpR op_eq (pv 5) pe_str (nomark _)) pe_str pe_str) (pa_cons pe_int pa_nil)))) pa_nil))))
        pss_nil)
      (pss_one (ps_ret (pe_G G_merged (hr.mono (by decide)) rfl pass0 (pa_cons (pe_op op_cat (pv 7) (pe_lc (own := [("letter", 8), ("count", 9)]) (by rfl) sc_way.nd (pi_list (pv 3)) (blkOk_by (N := ["one", "other", "left", "right", "start", "end", "axes", "moves", "letter", "count"]) (sc := defScope s_way) (by decide +kernel)) (by exact fun _ _ _ _ _ => (show PG _ _ (gTup K 2 _) from pg_tup (n := 2) rfl (pgs_cons (pg_name (i := 8) sc_way.nd rfl (by first | exact Or.inl rfl | exact Or.inr rfl)) (pgs_cons (pg_name (i := 9) sc_way.nd rfl (by first | exact Or.inl rfl | exact Or.inr rfl)) pgs_nil)))) (by exact fun _ _ _ _ _ => pts_nil) (by exact fun _ _ _ _ _ => (pe_tup (pa_cons pe_str (pa_cons (pe_dget (hu_of hr) (pv 6) (pv 8) (fun _ _ => rfl)) (pa_cons (pv 9) pa_nil))))))) pa_nil)))))))))))), ?_⟩
    obtain ⟨v1, v2, x, y, u, w, rfl, h1, h2, ok1, ok2, kN, kY⟩ := h
    have s2 : 2 ≤ sizeLine := by decide
    have s3 : 3 ≤ sizeLine := by decide
    have r1 := R_len' ok1
    have r2 := R_len' ok2
    -- left, right = runs(one)[::-1], runs(other)[::-1]
    refine ⟨_, rfl, v1, x, y, rfl, h1, ok1, fun f1 us1 H1 hf1 e1 hF1 hD1 => ⟨f1, us1, rfl, SqL.of hF1, fun l hl => ?_⟩⟩
    have e2 := e1.trans (same_new (o := .lst us1.reverse) hl)
    refine ⟨_, rfl, v2, u, w, rfl, h2.same e2, ok2, fun f2 us2 H3 hf2 e3 hF2 hD2 => ⟨f2, us2, rfl, SqL.of hF2, fun r hr' => ⟨_, _, rfl, ?_⟩⟩⟩
    have e4 := e3.trans (same_new (o := .lst us2.reverse) hr')
    have e04 := e2.trans e4
    have hL : (upd H3 r (.lst us2.reverse)) l = some (.lst us1.reverse) := e4 _ _ upd_same
    have hRr : (upd H3 r (.lst us2.reverse)) r = some (.lst us2.reverse) := upd_same
    have dL : DpAll K (upd H3 r (.lst us2.reverse)) us1.reverse ((R x y).reverse.map runD) := by
      rw [List.map_reverse]
      exact DpAll.rev (Dp.sameAll ((same_new hl).trans e4) hD1)
    have dR : DpAll K (upd H3 r (.lst us2.reverse)) us2.reverse ((R u w).reverse.map runD) := by
      rw [List.map_reverse]
      exact DpAll.rev (Dp.sameAll (same_new hr') hD2)
    generalize upd H3 r (.lst us2.reverse) = H4 at *
    -- if divisor(one) != divisor(other): return None
    refine ⟨_, rfl, v1, x, y, rfl, h1.same e04, ok1.1, fun H5 e5 => ?_⟩
    refine ⟨_, rfl, v2, u, w, rfl, (h2.same e04).same e5, ok2.1, fun H6 e6 => ⟨rfl, _, rfl, ?_⟩⟩
    have e06 := e04.trans (e5.trans e6)
    by_cases hg : Nat.gcd x y = Nat.gcd u w
    rotate_left
    · exact ite_t (by rw [dne (by omega)]; rfl) (kN hg _ e06)
    refine ite_f (by rw [deq (by omega)]; rfl) ?_
    have kY := kY hg
    -- start, end = bottom(one), bottom(other)
    refine ⟨_, rfl, v1, x, y, rfl, h1.same e06, ok1.1, fun H7 e7 => ?_⟩
    refine ⟨_, rfl, v2, u, w, rfl, (h2.same e06).same e7, ok2.1, fun H8 e8 => ⟨_, _, rfl, ?_⟩⟩
    have e48 := e5.trans (e6.trans (e7.trans e8))
    have e08 := e04.trans e48
    have hL8 := e48 _ _ hL
    have hR8 := e48 _ _ hRr
    have dL8 := Dp.sameAll e48 dL
    have dR8 := Dp.sameAll e48 dR
    have dstr : ∀ a b : Str, decide (V.str a = V.str b) = decide (a = b) := fun a b => by
      by_cases z : a = b
      · rw [decide_eq_true z, decide_eq_true (congrArg V.str z)]
      · rw [decide_eq_false z, decide_eq_false fun q => z (V.str.inj q)]
    -- if start == end: left, right = rest_of(left, right)
    refine ⟨fun σ H' => ∃ (p q : Addr) (us ws : List V), σ = [some v1, some v2, some (.ref p), some (.ref q), some (.str (bot x y)), some (.str (bot u w)), none, none, none, none] ∧ Same H H' ∧ H' p = some (.lst us) ∧ H' q = some (.lst ws) ∧ DpAll K H' us ((wayL x y u w).1.map runD) ∧ DpAll K H' ws ((wayL x y u w).2.map runD), ?_, ?_⟩
    · refine ⟨_, rfl, _, rfl, rfl, _, rfl, ?_⟩
      by_cases hb : bot x y = bot u w
      · refine ite_t (by rw [dstr]; exact decide_eq_true hb) ?_
        refine ⟨_, rfl, _, rfl, l, r, _, _, (R x y).reverse, (R u w).reverse, rfl, hL8, hR8, dL8, dR8, by rw [List.length_reverse]; exact r1, by rw [List.length_reverse]; exact r2, fun t p q us ws H9 e9 ht hp hq dp dq => ?_⟩
        refine ⟨t, _, rfl, SqT.of ht, rfl, _, _, rfl, _, _, rfl, rfl, p, q, us, ws, rfl, e08.trans e9, hp, hq, ?_, ?_⟩
        · unfold wayL; rw [if_pos hb]; exact dp
        · unfold wayL; rw [if_pos hb]; exact dq
      · refine ite_f (by rw [dstr]; exact decide_eq_false hb) ⟨l, r, _, _, rfl, e08, hL8, hR8, ?_, ?_⟩
        · unfold wayL; rw [if_neg hb]; exact dL8
        · unfold wayL; rw [if_neg hb]; exact dR8
    rintro σ H9 ⟨p, q, us, ws, rfl, e9, hp, hq, dp, dq⟩
    obtain ⟨_, _, wl1, wl2⟩ := wayL_cnt x y u w
    have wu := up_cnt (bot x y) (bot u w)
    have wd := down_cnt (bot x y) (bot u w)
    have kraw : wayM x y u w = merge (takes (wayL x y u w).1.reverse ++ wayUp (bot x y) (bot u w) ++ wayDown (bot x y) (bot u w) ++ adds (wayL x y u w).2) := rfl
    generalize (wayL x y u w).1 = Ls at *
    generalize (wayL x y u w).2 = Rs at *
    generalize bot x y = s at *
    generalize bot u w = e at *
    -- axes
    refine fun dd hdd => ⟨upd_same, axesKV, rfl, (by decide), ?_⟩
    rw [upd_upd, show mergeK [] axesKV = axesKV by decide +kernel]
    have e10 := same_new (o := .dK axesKV) hdd
    have hX : (upd H9 dd (.dK axesKV)) dd = some (.dK axesKV) := upd_same
    have hp := e10 _ _ hp
    have hq := e10 _ _ hq
    have dp := Dp.sameAll e10 dp
    have dq := Dp.sameAll e10 dq
    have e010 := e9.trans e10
    generalize upd H9 dd (.dK axesKV) = H10 at *
    have getX : ∀ {H' : Hp} (c : Bool), H' dd = some (.dK axesKV) → DGet H' dd (.str (letS c)) (some (.str (if c then "x" else "y"))) := fun {H'} c h => by
      have g := DGet.k (k := Sum.inr (letS c)) h
      rw [axes_at] at g
      exact g
    -- a list of moves out of a list of runs
    have lus := DpAll.length dp
    rw [List.length_map] at lus
    have lws := DpAll.length dq
    rw [List.length_map] at lws
    -- moves = [("take", axes[letter], count) for letter, count in left[::-1]]
    refine ⟨_, rfl, p, us, rfl, SqL.of hp, fun l2 hl2 => ⟨l2, rfl, ⟨_, SqL.of upd_same⟩, fun D hD => ?_⟩⟩
    have e11 := same_new (o := .lst us.reverse) hl2
    have dl2 : DpAll K (upd H10 l2 (.lst us.reverse)) us.reverse (Ls.reverse.map runD) := by
      rw [List.map_reverse]
      exact DpAll.rev (Dp.sameAll e11 dp)
    have hl2' : (upd H10 l2 (.lst us.reverse)) l2 = some (.lst us.reverse) := upd_same
    have hX := e11 _ _ hX
    have hq := e11 _ _ hq
    have dq := Dp.sameAll e11 dq
    have e011 := e010.trans e11
    generalize upd H10 l2 (.lst us.reverse) = H11 at *
    have hD0 : H D = none := Same.free e011 hD
    have nDX : dd ≠ D := ne_of_none hX hD
    have nDq : q ≠ D := ne_of_none hq hD
    refine lc_list (K := K) (a := l2) (xs := us.reverse) (fun i H' => Same H11 H' ∧ ∃ ms, H' D = some (.lst ms) ∧ DpAll K H' ms ((takes (Ls.reverse.take i)).map mvD)) ⟨same_new hD, [], upd_same, .nil⟩ (fun i H' _ z => SqL.of (z.1 _ _ hl2')) ?_ ?_
    · rintro i z H12 hz ⟨e12, ms, g1, g2⟩
      obtain ⟨c, n, pz, hr2, rfl, hpz⟩ := run_get (Dp.sameAll e12 dl2) hz
      have hi : i < Ls.reverse.length := (List.getElem?_eq_some_iff.mp hr2).1
      rw [List.length_reverse] at hi
      refine ⟨pz, _, rfl, hpz, rfl, _, _, rfl, _, _, rfl, rfl, rfl, ?_⟩
      refine ⟨_, rfl, _, rfl, dd, _, rfl, getX c (e12 _ _ hX), _, rfl, s3, fun t ht => ?_⟩
      have nDt : D ≠ t := ne_of_none g1 ht
      have g1' : (upd H12 t (.tup [.str "take", .str (if c then "x" else "y"), .int (n : Int)])) D = some (.lst ms) := by rw [upd_ne nDt]; exact g1
      refine ⟨ms, g1', ?_, same_mut (e12.trans (same_new ht)) hD, ms ++ [.ref t], upd_same, ?_⟩
      · have q1 := DpAll.length g2
        unfold takes at q1
        rw [List.length_map, List.length_map, List.length_take] at q1
        exact szl (by omega)
      · unfold takes at g2 ⊢
        rw [List.take_add_one, hr2, List.map_append, List.map_append]
        exact DpAll.append (Dp.sameTs ((SameT.new ht).trans (.put g1')) (noLs_map noL_mvD _) g2) (DpAll.one (Dp.move (w := false) (x := c) rfl (SqT.of (by rw [upd_ne nDt.symm, upd_same]; rfl))))
    rintro H12 ⟨e12, ms, g1, g2⟩
    rw [List.length_reverse, lus, show Ls.length = Ls.reverse.length by rw [List.length_reverse], List.take_length] at g2
    -- if start != end and start != "even"
    refine ⟨fun σ H' => ∃ ms : List V, σ = [some v1, some v2, some (.ref p), some (.ref q), some (.str s), some (.str e), some (.ref dd), some (.ref D), none, none] ∧ Same H11 H' ∧ H' D = some (.lst ms) ∧ DpAll K H' ms ((takes Ls.reverse ++ wayUp s e).map mvD), ?_, ?_⟩
    · have lms := DpAll.length g2
      unfold takes at lms
      rw [List.length_map, List.length_map, List.length_reverse] at lms
      refine ⟨_, rfl, _, rfl, rfl, _, rfl, ?_⟩
      by_cases c1 : s = e
      · refine ite_f (by rw [dstr, decide_eq_true c1]; rfl) (ite_f rfl ⟨ms, rfl, e12, g1, ?_⟩)
        rw [show wayUp s e = [] from if_neg fun z => z.1 c1, List.append_nil]
        exact g2
      refine ite_t (by rw [dstr, decide_eq_false c1]; rfl) ⟨_, rfl, rfl, _, rfl, ?_⟩
      by_cases c2 : s = "even"
      · refine ite_f (by rw [dstr, decide_eq_true c2]; rfl) ⟨ms, rfl, e12, g1, ?_⟩
        rw [show wayUp s e = [] from if_neg fun z => z.2 c2, List.append_nil]
        exact g2
      refine ite_t (by rw [dstr, decide_eq_false c2]; rfl) ?_
      have eup : wayUp s e = [(true, decide (s ≠ "flat"), 1)] := if_pos ⟨c1, c2⟩
      have fin : ∀ (b : Bool), decide (s ≠ "flat") = b → ∀ t, H12 t = none → ∃ l xs y, V.ref D = V.ref l ∧ [V.ref t] = [y] ∧ (upd H12 t (.tup [.str "add", .str (if b then "x" else "y"), .int 1])) l = some (.lst xs) ∧ xs.length < sizeLine ∧ ∃ ms : List V, [some v1, some v2, some (.ref p), some (.ref q), some (.str s), some (.str e), some (.ref dd), some (.ref D), none, none] = [some v1, some v2, some (.ref p), some (.ref q), some (.str s), some (.str e), some (.ref dd), some (.ref D), none, none] ∧ Same H11 (upd (upd H12 t (.tup [.str "add", .str (if b then "x" else "y"), .int 1])) l (.lst (xs ++ [y]))) ∧ (upd (upd H12 t (.tup [.str "add", .str (if b then "x" else "y"), .int 1])) l (.lst (xs ++ [y]))) D = some (.lst ms) ∧ DpAll K (upd (upd H12 t (.tup [.str "add", .str (if b then "x" else "y"), .int 1])) l (.lst (xs ++ [y]))) ms ((takes Ls.reverse ++ wayUp s e).map mvD) := fun b hb t ht => by
        have nDt : D ≠ t := ne_of_none g1 ht
        have g1' : (upd H12 t (.tup [.str "add", .str (if b then "x" else "y"), .int 1])) D = some (.lst ms) := by rw [upd_ne nDt]; exact g1
        refine ⟨D, ms, .ref t, rfl, rfl, g1', szl (by omega), ms ++ [.ref t], rfl, same_mut (e12.trans (same_new ht)) hD, upd_same, ?_⟩
        rw [List.map_append, eup, hb]
        exact DpAll.append (Dp.sameTs ((SameT.new ht).trans (.put g1')) (noLs_map noL_mvD _) g2) (DpAll.one (Dp.move (w := true) (x := b) (k := 1) rfl (SqT.of (by rw [upd_ne nDt.symm, upd_same]; rfl))))
      refine ⟨_, rfl, .inl ⟨rfl, _, SqL.of g1⟩, _, rfl, rfl, _, rfl, ?_⟩
      by_cases c3 : s = "flat"
      · exact ite_t (by rw [dstr]; exact decide_eq_true c3) ⟨s3, fun t ht => fin false (decide_eq_false fun z => z c3) t ht⟩
      · exact ite_f (by rw [dstr]; exact decide_eq_false c3) ⟨s3, fun t ht => fin true (decide_eq_true c3) t ht⟩
    rintro σ H13 ⟨ms2, rfl, e13, g3, g4⟩
    -- if start != end and end != "even"
    refine ⟨fun σ H' => ∃ ms : List V, σ = [some v1, some v2, some (.ref p), some (.ref q), some (.str s), some (.str e), some (.ref dd), some (.ref D), none, none] ∧ Same H11 H' ∧ H' D = some (.lst ms) ∧ DpAll K H' ms ((takes Ls.reverse ++ wayUp s e ++ wayDown s e).map mvD), ?_, ?_⟩
    · have lms := DpAll.length g4
      unfold takes at lms
      rw [List.length_map, List.length_append, List.length_map, List.length_reverse] at lms
      refine ⟨_, rfl, _, rfl, rfl, _, rfl, ?_⟩
      by_cases c1 : s = e
      · refine ite_f (by rw [dstr, decide_eq_true c1]; rfl) (ite_f rfl ⟨ms2, rfl, e13, g3, ?_⟩)
        rw [show wayDown s e = [] from if_neg fun z => z.1 c1, List.append_nil]
        exact g4
      refine ite_t (by rw [dstr, decide_eq_false c1]; rfl) ⟨_, rfl, rfl, _, rfl, ?_⟩
      by_cases c2 : e = "even"
      · refine ite_f (by rw [dstr, decide_eq_true c2]; rfl) ⟨ms2, rfl, e13, g3, ?_⟩
        rw [show wayDown s e = [] from if_neg fun z => z.2 c2, List.append_nil]
        exact g4
      refine ite_t (by rw [dstr, decide_eq_false c2]; rfl) ?_
      have edn : wayDown s e = [(false, decide (e ≠ "flat"), 1)] := if_pos ⟨c1, c2⟩
      have fin : ∀ (b : Bool), decide (e ≠ "flat") = b → ∀ t, H13 t = none → ∃ l xs y, V.ref D = V.ref l ∧ [V.ref t] = [y] ∧ (upd H13 t (.tup [.str "take", .str (if b then "x" else "y"), .int 1])) l = some (.lst xs) ∧ xs.length < sizeLine ∧ ∃ ms : List V, [some v1, some v2, some (.ref p), some (.ref q), some (.str s), some (.str e), some (.ref dd), some (.ref D), none, none] = [some v1, some v2, some (.ref p), some (.ref q), some (.str s), some (.str e), some (.ref dd), some (.ref D), none, none] ∧ Same H11 (upd (upd H13 t (.tup [.str "take", .str (if b then "x" else "y"), .int 1])) l (.lst (xs ++ [y]))) ∧ (upd (upd H13 t (.tup [.str "take", .str (if b then "x" else "y"), .int 1])) l (.lst (xs ++ [y]))) D = some (.lst ms) ∧ DpAll K (upd (upd H13 t (.tup [.str "take", .str (if b then "x" else "y"), .int 1])) l (.lst (xs ++ [y]))) ms ((takes Ls.reverse ++ wayUp s e ++ wayDown s e).map mvD) := fun b hb t ht => by
        have nDt : D ≠ t := ne_of_none g3 ht
        have g1' : (upd H13 t (.tup [.str "take", .str (if b then "x" else "y"), .int 1])) D = some (.lst ms2) := by rw [upd_ne nDt]; exact g3
        refine ⟨D, ms2, .ref t, rfl, rfl, g1', szl (by omega), ms2 ++ [.ref t], rfl, same_mut (e13.trans (same_new ht)) hD, upd_same, ?_⟩
        rw [List.map_append, edn, hb]
        exact DpAll.append (Dp.sameTs ((SameT.new ht).trans (.put g1')) (noLs_map noL_mvD _) g4) (DpAll.one (Dp.move (w := false) (x := b) (k := 1) rfl (SqT.of (by rw [upd_ne nDt.symm, upd_same]; rfl))))
      refine ⟨_, rfl, .inl ⟨rfl, _, SqL.of g3⟩, _, rfl, rfl, _, rfl, ?_⟩
      by_cases c3 : e = "flat"
      · exact ite_t (by rw [dstr]; exact decide_eq_true c3) ⟨s3, fun t ht => fin false (decide_eq_false fun z => z c3) t ht⟩
      · exact ite_f (by rw [dstr]; exact decide_eq_false c3) ⟨s3, fun t ht => fin true (decide_eq_true c3) t ht⟩
    rintro σ H14 ⟨ms3, rfl, e14, g5, g6⟩
    have lms := DpAll.length g6
    unfold takes at lms
    rw [List.length_map, List.length_append, List.length_append, List.length_map, List.length_reverse] at lms
    have hX := e14 _ _ hX
    have hq := e14 _ _ hq
    have dq := Dp.sameAll e14 dq
    -- return merged(moves + [("add", axes[letter], count) for letter, count in right])
    refine ⟨_, rfl, _, rfl, q, rfl, ⟨_, SqL.of hq⟩, fun D2 hD2' => ?_⟩
    refine lc_list (K := K) (a := q) (xs := ws) (fun i H' => Same H14 H' ∧ ∃ ms, H' D2 = some (.lst ms) ∧ DpAll K H' ms ((adds (Rs.take i)).map mvD)) ⟨same_new hD2', [], upd_same, .nil⟩ (fun i H' _ z => SqL.of (z.1 _ _ hq)) ?_ ?_
    · rintro i z H12 hz ⟨e12, ms, g1, g2⟩
      obtain ⟨c, n, pz, hr2, rfl, hpz⟩ := run_get (Dp.sameAll e12 dq) hz
      have hi : i < Rs.length := (List.getElem?_eq_some_iff.mp hr2).1
      refine ⟨pz, _, rfl, hpz, rfl, _, _, rfl, _, _, rfl, rfl, rfl, ?_⟩
      refine ⟨_, rfl, _, rfl, dd, _, rfl, getX c (e12 _ _ hX), _, rfl, s3, fun t ht => ?_⟩
      have nDt : D2 ≠ t := ne_of_none g1 ht
      have g1' : (upd H12 t (.tup [.str "add", .str (if c then "x" else "y"), .int (n : Int)])) D2 = some (.lst ms) := by rw [upd_ne nDt]; exact g1
      refine ⟨ms, g1', ?_, same_mut (e12.trans (same_new ht)) hD2', ms ++ [.ref t], upd_same, ?_⟩
      · have q1 := DpAll.length g2
        unfold adds at q1
        rw [List.length_map, List.length_map, List.length_take] at q1
        exact szl (by omega)
      · unfold adds at g2 ⊢
        rw [List.take_add_one, hr2, List.map_append, List.map_append]
        exact DpAll.append (Dp.sameTs ((SameT.new ht).trans (.put g1')) (noLs_map noL_mvD _) g2) (DpAll.one (Dp.move (w := true) (x := c) rfl (SqT.of (by rw [upd_ne nDt.symm, upd_same]; rfl))))
    rintro H15 ⟨e15, ms4, g7, g8⟩
    rw [lws, List.take_length] at g8
    have l4 := DpAll.length g8
    unfold adds at l4
    rw [List.length_map, List.length_map] at l4
    refine ⟨D, D2, ms3, ms4, rfl, rfl, e15 _ _ g5, g7, sz (by omega), fun F hF => ?_⟩
    have e16 := same_new (o := .lst (ms3 ++ ms4)) hF
    refine ⟨F, ms3 ++ ms4, takes Ls.reverse ++ wayUp s e ++ wayDown s e ++ adds Rs, rfl, SqL.of upd_same, ?_, ?_, fun f us' H' hf' e' hfl dfl => ?_⟩
    · rw [List.map_append]
      exact DpAll.append (Dp.sameAll (e15.trans e16) g6) (Dp.sameAll e16 g8)
    · unfold takes adds
      rw [List.length_append, List.length_append, List.length_append, List.length_map, List.length_map, List.length_reverse]
      omega
    · have eall : Same H (upd H15 F (.lst (ms3 ++ ms4))) := e011.trans (e14.trans (e15.trans e16))
      exact kY f us' H' (Same.free eall hf') (eall.trans e') hfl (kraw ▸ dfl)

/-! ### _law_same -/
/-- no list or tuple is long -/
abbrev small : PyData → Bool := smallD
/-- two values of the same data -/
def spSame (n : Nat) (K : PySem.W.Frag) : Sp := fun vs H Q _ => ∃ (u v : V) (d : PyData), vs = [u, v] ∧ Dp K H u d ∧ Dp K H v d ∧ d.depth < n ∧ small d = true ∧ ∀ H', Same H H' → Q (.bl true) H'
def sp__law_same (K : PySem.W.Frag) : Sp := spSame 12 K

theorem sc__law_same : FnScope ["found", "due", "a", "b"] ["found", "due"] (defScope s__law_same) := ⟨rfl, rfl, rfl, by decide +kernel, rfl, by decide +kernel, by decide +kernel⟩
/-- lists within are short -/
theorem depth_get : ∀ {ds : List PyData} {i : Nat} {d : PyData}, ds[i]? = some d → d.depth ≤ PyData.depthAll ds
  | [], _, _, h => by cases h
  | _ :: _, 0, _, h => by
    cases h
    rw [PyData.depthAll]
    exact Nat.le_max_left _ _
  | _ :: ds, i + 1, _, h => by
    rw [PyData.depthAll]
    exact Nat.le_trans (depth_get (ds := ds) (i := i) (by simpa using h)) (Nat.le_max_right _ _)
theorem walk_zipT {K : PySem.W.Frag} {a b : Addr} {xs ys : List V} {n : Nat} (hn : n = min xs.length ys.length) : Walk (RZ.ItzT K a b) n (fun H => SqT K H a xs ∧ SqT K H b ys) (YPair (fun i => xs[i]?) (fun i => ys[i]?)) := by
  subst hn
  refine ⟨fun i _ hi q => ?_, fun _ q => ⟨xs, ys, q.1, q.2, by omega⟩, fun i H v H' _ q y => ?_⟩
  · have h1 : i < xs.length := by omega
    have h2 : i < ys.length := by omega
    exact ⟨xs, ys, xs[i], ys[i], q.1, q.2, by simp [h1], by simp [h2]⟩
  · obtain ⟨T, x, z, h1, h2, h3, h4, h5⟩ := y
    exact ⟨T, x, z, h1, h2, h3, h4 xs q.1, h5 ys q.2⟩
theorem same_step {n : Nat} (E : En K mg) (G__law_same : Good P w K mg base CX0 n "_law_same" ["found", "due"] (spSame n K)) : Good P w K mg base CX0 (n + 1) "_law_same" ["found", "due"] (spSame (n + 1) K) := by
  obtain ⟨fd, F⟩ := E.says.def_ 10 (d := d__law_same) rfl
  refine ⟨fd, ?_, F.bindsN fun _ _ _ _ _ _ us hl => match us, hl with | [_, _], _ => rfl, F.kp, E.gl "_law_same"⟩
  refine F.ok sc__law_same (fun vs H Q E' h => ?_) (fun cdv A outer s H vs Q E' hr h => ?_)
  · obtain ⟨u, v, d, rfl, _⟩ := h; rfl
  refine ⟨_, PSs.nox (pss_cons (ps_if (PW.pt (pw_or (pt_val (pe_callB call_isi (by rfl) (E.fr "isinstance") (by decide +kernel) (pa_cons (pv 1) (pa_cons (pe_bltn (v := .ty "list") (by rfl) (E.fr "list") (by decide +kernel) rfl) pa_nil)))) (pw_or1 (pt_val (pe_callB call_isi (by rfl) (E.fr "isinstance") (by decide +kernel) (pa_cons (pv 1) (pa_cons (pe_bltn (v := .ty "tuple") (by rfl) (E.fr "tuple") (by decide +kernel) rfl) pa_nil)))))))
        (pss_cons (ps_if (PW.pt (pw_or (pt_cmpR op_ne (pe_callB call_isi (by rfl) (E.fr "isinstance") (by decide +kernel) (pa_cons (pv 0) (pa_cons (pe_bltn (v := .ty "list") (by rfl) (E.fr "list") (by decide +kernel) rfl) pa_nil))) (pe_callB call_isi (by rfl) (E.fr "isinstance") (by decide +kernel) (pa_cons (pv 1) (pa_cons (pe_bltn (v := .ty "list") (by rfl) (E.fr "list") (by decide +kernel) rfl) pa_nil))) (nomark _)) (pw_or1 (pt_cmpR op_ne (pe_callB call_isi (by rfl) (E.fr "isinstance") (by decide +kernel) (pa_cons (pv 0) (pa_cons (pe_bltn (v := .ty "tuple") (by rfl) (E.fr "tuple") (by decide +kernel) rfl) pa_nil))) (pe_callB call_isi (by rfl) (E.fr "isinstance") (by decide +kernel) (pa_cons (pv 1) (pa_cons (pe_bltn (v := .ty "tuple") (by rfl) (E.fr "tuple") (by decide +kernel) rfl) pa_nil))) (nomark _)))))
        (pss_one (ps_ret pe_bl))
        pss_nil)
      (pss_one (ps_ret (pe_and (pe_cmpR op_eq (pe_callB call_len_seq (by rfl) (E.fr "len") (by decide +kernel) (pa_cons (pv 0) pa_nil)) (pe_callB call_len_seq (by rfl) (E.fr "len") (by decide +kernel) (pa_cons (pv 1) pa_nil)) (nomark _)) (pe_one (pe_callB (show CallR _ _ (rAll K) from cr_all rfl) (by rfl) (E.fr "all") (by decide +kernel) (pa_cons (pe_lc (own := [("a", 2), ("b", 3)]) (by rfl) sc__law_same.nd (RZ.pi_zipA (by rfl) (E.fr "zip") (pa_cons (pv 0) (pa_cons (pv 1) pa_nil))) (blkOk_by (N := ["found", "due", "a", "b"]) (sc := defScope s__law_same) (by decide +kernel)) (by exact fun _ _ _ _ _ => (show PG _ _ (gTup K 2 _) from pg_tup (n := 2) rfl (pgs_cons (pg_name (i := 2) sc__law_same.nd rfl (by first | exact Or.inl rfl | exact Or.inr rfl)) (pgs_cons (pg_name (i := 3) sc__law_same.nd rfl (by first | exact Or.inl rfl | exact Or.inr rfl)) pgs_nil)))) (by exact fun _ _ _ _ _ => pts_nil) (by exact fun _ _ _ _ _ => (pe_G G__law_same hr rfl pass0 (pa_cons (pv 2) (pa_cons (pv 3) pa_nil))))) pa_nil)))))))
        pss_nil)
      (pss_cons (ps_if (PW.pt (pw_or (pt_cmpR op_isN (pv 1) pe_non (nomark _)) (pw_or1 (pt_cmpR op_isN (pv 0) pe_non (nomark _)))))
        (pss_one (ps_ret (pe_and (pe_cmpR op_isN (pv 1) pe_non (nomark _)) (pe_one (pe_cmpR op_isN (pv 0) pe_non (nomark _))))))
        pss_nil)
      (pss_cons (ps_if (PW.pt (pw_or (pt_cmpR op_ne (pe_callB call_isi (by rfl) (E.fr "isinstance") (by decide +kernel) (pa_cons (pv 0) (pa_cons (pe_bltn (v := .ty "bool") (by rfl) (E.fr "bool") (by decide +kernel) rfl) pa_nil))) (pe_callB call_isi (by rfl) (E.fr "isinstance") (by decide +kernel) (pa_cons (pv 1) (pa_cons (pe_bltn (v := .ty "bool") (by rfl) (E.fr "bool") (by decide +kernel) rfl) pa_nil))) (nomark _)) (pw_or1 (pt_cmpR op_ne (pe_callB call_isi (by rfl) (E.fr "isinstance") (by decide +kernel) (pa_cons (pv 0) (pa_cons (pe_bltn (v := .ty "int") (by rfl) (E.fr "int") (by decide +kernel) rfl) pa_nil))) (pe_callB call_isi (by rfl) (E.fr "isinstance") (by decide +kernel) (pa_cons (pv 1) (pa_cons (pe_bltn (v := .ty "int") (by rfl) (E.fr "int") (by decide +kernel) rfl) pa_nil))) (nomark _)))))
        (pss_one (ps_ret pe_bl))
        pss_nil)
      (pss_one (ps_ret (pe_and (pe_cmpR op_eq (pe_callB call_isi (by rfl) (E.fr "isinstance") (by decide +kernel) (pa_cons (pv 0) (pa_cons (pe_bltn (v := .ty "str") (by rfl) (E.fr "str") (by decide +kernel) rfl) pa_nil))) (pe_callB call_isi (by rfl) (E.fr "isinstance") (by decide +kernel) (pa_cons (pv 1) (pa_cons (pe_bltn (v := .ty "str") (by rfl) (E.fr "str") (by decide +kernel) rfl) pa_nil))) (nomark _)) (pe_one (pe_cmpR op_eq (pv 0) (pv 1) (nomark _))))))))), ?_⟩
  obtain ⟨u, v, d, rfl, hu, hv, hd, hl, k⟩ := h
  rcases d with _ | bb | ii | ss | ds | ds | kv
  · -- none
    cases hv
    cases hu
    have t0 : TyX K H (V.non) (.type "NoneType") := .base .non
    refine ⟨_, rfl, _, _, _, _, false, rfl, .ty _, t0, kit_ty (by decide +kernel), _, rfl, ?_⟩
    refine ite_f rfl ⟨_, rfl, _, _, _, _, false, rfl, .ty _, t0, kit_ty (by decide +kernel), _, rfl, ?_⟩
    refine ite_f rfl ⟨_, rfl, rfl, _, rfl, ?_⟩
    refine ⟨_, rfl, rfl, _, rfl, ?_⟩
    refine ite_t rfl ⟨_, rfl, rfl, ?_⟩
    exact k H (Same.refl H)
  · -- bool
    cases hv
    cases hu
    have t0 : TyX K H (V.bl bb) (.type "bool") := .base (.bl bb)
    refine ⟨_, rfl, _, _, _, _, false, rfl, .ty _, t0, kit_ty (by decide +kernel), _, rfl, ?_⟩
    refine ite_f rfl ⟨_, rfl, _, _, _, _, false, rfl, .ty _, t0, kit_ty (by decide +kernel), _, rfl, ?_⟩
    refine ite_f rfl ⟨_, rfl, rfl, _, rfl, ?_⟩
    refine ite_f rfl ⟨_, rfl, rfl, _, rfl, ?_⟩
    refine ite_f rfl ⟨_, rfl, _, _, _, _, true, rfl, .ty _, t0, kit_ty (by decide +kernel), _, rfl, _, _, _, _, true, rfl, .ty _, t0, kit_ty (by decide +kernel), rfl, _, rfl, ?_⟩
    refine ite_f rfl ⟨_, rfl, _, _, _, _, true, rfl, .ty _, t0, kit_ty (by decide +kernel), _, rfl, _, _, _, _, true, rfl, .ty _, t0, kit_ty (by decide +kernel), rfl, _, rfl, ?_⟩
    refine ite_f rfl ⟨_, rfl, _, _, _, _, false, rfl, .ty _, t0, kit_ty (by decide +kernel), _, rfl, _, _, _, _, false, rfl, .ty _, t0, kit_ty (by decide +kernel), rfl, _, rfl, ?_⟩
    refine ite_t rfl ⟨_, rfl, _, rfl, rfl, ?_⟩
    rw [decide_eq_true (Eq.refl _)]
    exact k H (Same.refl H)
  · -- int
    cases hv
    cases hu
    have t0 : TyX K H (V.int ii) (.type "int") := .base (.int ii)
    refine ⟨_, rfl, _, _, _, _, false, rfl, .ty _, t0, kit_ty (by decide +kernel), _, rfl, ?_⟩
    refine ite_f rfl ⟨_, rfl, _, _, _, _, false, rfl, .ty _, t0, kit_ty (by decide +kernel), _, rfl, ?_⟩
    refine ite_f rfl ⟨_, rfl, rfl, _, rfl, ?_⟩
    refine ite_f rfl ⟨_, rfl, rfl, _, rfl, ?_⟩
    refine ite_f rfl ⟨_, rfl, _, _, _, _, false, rfl, .ty _, t0, kit_ty (by decide +kernel), _, rfl, _, _, _, _, false, rfl, .ty _, t0, kit_ty (by decide +kernel), rfl, _, rfl, ?_⟩
    refine ite_f rfl ⟨_, rfl, _, _, _, _, true, rfl, .ty _, t0, kit_ty (by decide +kernel), _, rfl, _, _, _, _, true, rfl, .ty _, t0, kit_ty (by decide +kernel), rfl, _, rfl, ?_⟩
    refine ite_f rfl ⟨_, rfl, _, _, _, _, false, rfl, .ty _, t0, kit_ty (by decide +kernel), _, rfl, _, _, _, _, false, rfl, .ty _, t0, kit_ty (by decide +kernel), rfl, _, rfl, ?_⟩
    refine ite_t rfl ⟨_, rfl, _, rfl, rfl, ?_⟩
    rw [decide_eq_true (Eq.refl _)]
    exact k H (Same.refl H)
  · -- str
    cases hv
    cases hu
    have t0 : TyX K H (V.str ss) (.type "str") := .base (.str ss)
    refine ⟨_, rfl, _, _, _, _, false, rfl, .ty _, t0, kit_ty (by decide +kernel), _, rfl, ?_⟩
    refine ite_f rfl ⟨_, rfl, _, _, _, _, false, rfl, .ty _, t0, kit_ty (by decide +kernel), _, rfl, ?_⟩
    refine ite_f rfl ⟨_, rfl, rfl, _, rfl, ?_⟩
    refine ite_f rfl ⟨_, rfl, rfl, _, rfl, ?_⟩
    refine ite_f rfl ⟨_, rfl, _, _, _, _, false, rfl, .ty _, t0, kit_ty (by decide +kernel), _, rfl, _, _, _, _, false, rfl, .ty _, t0, kit_ty (by decide +kernel), rfl, _, rfl, ?_⟩
    refine ite_f rfl ⟨_, rfl, _, _, _, _, false, rfl, .ty _, t0, kit_ty (by decide +kernel), _, rfl, _, _, _, _, false, rfl, .ty _, t0, kit_ty (by decide +kernel), rfl, _, rfl, ?_⟩
    refine ite_f rfl ⟨_, rfl, _, _, _, _, true, rfl, .ty _, t0, kit_ty (by decide +kernel), _, rfl, _, _, _, _, true, rfl, .ty _, t0, kit_ty (by decide +kernel), rfl, _, rfl, ?_⟩
    refine ite_t rfl ⟨_, rfl, _, rfl, rfl, ?_⟩
    rw [decide_eq_true (Eq.refl _)]
    exact k H (Same.refl H)
  · -- a list
    cases hv with
    | lst hv1 hv2 =>
    cases hu with
    | lst hu1 hu2 =>
    rename_i a xs b ys
    have tu := tyL hu1
    have tv := tyL hv1
    have hl := small_ofL hl
    have h0 : PyData.depthAll ds < n := by
      rw [PyData.depth] at hd
      omega
    have l1 := DpAll.length hu2
    have l2 := DpAll.length hv2
    refine ⟨_, rfl, _, _, _, _, true, rfl, .ty _, tv, kit_ty (by decide +kernel), _, rfl, ?_⟩
    refine ⟨_, rfl, _, _, _, _, true, rfl, .ty _, tu, kit_ty (by decide +kernel), _, rfl, _, _, _, _, true, rfl, .ty _, tv, kit_ty (by decide +kernel), rfl, _, rfl, ?_⟩
    refine ite_f rfl ⟨_, rfl, _, _, _, _, false, rfl, .ty _, tu, kit_ty (by decide +kernel), _, rfl, _, _, _, _, false, rfl, .ty _, tv, kit_ty (by decide +kernel), rfl, _, rfl, ?_⟩
    refine ite_f rfl ?_
    -- len(found) == len(due) and all([..])
    refine ⟨_, rfl, _, _, rfl, (.inl hu1), _, rfl, _, _, rfl, (.inl hv1), rfl, _, rfl, ?_⟩
    refine ite_t (decide_eq_true (by rw [l1, l2])) ?_
    refine ⟨_, rfl, _, rfl, _, _, _, _, rfl, (.inl ⟨hu1, hv1, fun D hD => ?_⟩)⟩
    refine lc_it (walk_zip (n := ds.length) (by rw [l1, l2, Nat.min_self])) (fun i H' => Same H H' ∧ H' D = some (.lst (List.replicate i (V.bl true)))) ⟨same_new hD, upd_same⟩ (fun i H' _ q => ⟨q.1.seq hu1, q.1.seq hv1⟩) ?_ ?_
    · rintro i x H2 H3 hi ⟨e2, g2⟩ ⟨T, u1, v1, rfl, hT, rfl, q1, q2⟩
      have e3 : Same H (upd H2 T (.tup [u1, v1])) := e2.trans (same_new hT)
      obtain ⟨d1, r1, s1⟩ := DpAll.get hu2 q1
      obtain ⟨d2, r2, s2⟩ := DpAll.get hv2 q2
      have ed : d2 = d1 := Option.some.inj (r2.symm.trans r1)
      subst ed
      refine ⟨T, _, rfl, SqT.of upd_same, rfl, _, _, rfl, _, _, rfl, rfl, rfl, ?_⟩
      refine ⟨_, rfl, _, rfl, u1, v1, d2, rfl, Dp.same e3 s1, Dp.same e3 s2, Nat.lt_of_le_of_lt (depth_get r1) h0, hl.2 r1, fun H4 e4 => ?_⟩
      refine ⟨_, e4 _ _ (by rw [upd_ne (ne_of_none g2 hT)]; exact g2), ?_, same_mut (e3.trans e4) hD, ?_⟩
      · rw [List.length_replicate]
        exact szl (Nat.lt_of_lt_of_le hi (Nat.le_trans hl.1 (by decide)))
      · rw [upd_same, List.replicate_succ']
    · rintro H2 ⟨e2, g2⟩
      refine ⟨D, List.replicate ds.length true, rfl, SqL.of (by rw [List.map_replicate]; exact g2), ?_⟩
      rw [show (List.replicate ds.length true).all id = true by simp]
      exact k H2 e2
  · -- a tuple
    cases hv with
    | tup hv1 hv2 =>
    cases hu with
    | tup hu1 hu2 =>
    rename_i a xs b ys
    have tu := tyT hu1
    have tv := tyT hv1
    have hl := small_ofT hl
    have h0 : PyData.depthAll ds < n := by
      rw [PyData.depth] at hd
      omega
    have l1 := DpAll.length hu2
    have l2 := DpAll.length hv2
    refine ⟨_, rfl, _, _, _, _, false, rfl, .ty _, tv, kit_ty (by decide +kernel), _, rfl, ?_⟩
    refine ite_f rfl ⟨_, rfl, _, _, _, _, true, rfl, .ty _, tv, kit_ty (by decide +kernel), _, rfl, ?_⟩
    refine ⟨_, rfl, _, _, _, _, false, rfl, .ty _, tu, kit_ty (by decide +kernel), _, rfl, _, _, _, _, false, rfl, .ty _, tv, kit_ty (by decide +kernel), rfl, _, rfl, ?_⟩
    refine ite_f rfl ⟨_, rfl, _, _, _, _, true, rfl, .ty _, tu, kit_ty (by decide +kernel), _, rfl, _, _, _, _, true, rfl, .ty _, tv, kit_ty (by decide +kernel), rfl, _, rfl, ?_⟩
    refine ite_f rfl ?_
    -- len(found) == len(due) and all([..])
    refine ⟨_, rfl, _, _, rfl, (.inr hu1), _, rfl, _, _, rfl, (.inr hv1), rfl, _, rfl, ?_⟩
    refine ite_t (decide_eq_true (by rw [l1, l2])) ?_
    refine ⟨_, rfl, _, rfl, _, _, _, _, rfl, (.inr ⟨hu1, hv1, fun D hD => ?_⟩)⟩
    refine lc_it (walk_zipT (n := ds.length) (by rw [l1, l2, Nat.min_self])) (fun i H' => Same H H' ∧ H' D = some (.lst (List.replicate i (V.bl true)))) ⟨same_new hD, upd_same⟩ (fun i H' _ q => ⟨seqT q.1 hu1, seqT q.1 hv1⟩) ?_ ?_
    · rintro i x H2 H3 hi ⟨e2, g2⟩ ⟨T, u1, v1, rfl, hT, rfl, q1, q2⟩
      have e3 : Same H (upd H2 T (.tup [u1, v1])) := e2.trans (same_new hT)
      obtain ⟨d1, r1, s1⟩ := DpAll.get hu2 q1
      obtain ⟨d2, r2, s2⟩ := DpAll.get hv2 q2
      have ed : d2 = d1 := Option.some.inj (r2.symm.trans r1)
      subst ed
      refine ⟨T, _, rfl, SqT.of upd_same, rfl, _, _, rfl, _, _, rfl, rfl, rfl, ?_⟩
      refine ⟨_, rfl, _, rfl, u1, v1, d2, rfl, Dp.same e3 s1, Dp.same e3 s2, Nat.lt_of_le_of_lt (depth_get r1) h0, hl.2 r1, fun H4 e4 => ?_⟩
      refine ⟨_, e4 _ _ (by rw [upd_ne (ne_of_none g2 hT)]; exact g2), ?_, same_mut (e3.trans e4) hD, ?_⟩
      · rw [List.length_replicate]
        exact szl (Nat.lt_of_lt_of_le hi (Nat.le_trans hl.1 (by decide)))
      · rw [upd_same, List.replicate_succ']
    · rintro H2 ⟨e2, g2⟩
      refine ⟨D, List.replicate ds.length true, rfl, SqL.of (by rw [List.map_replicate]; exact g2), ?_⟩
      rw [show (List.replicate ds.length true).all id = true by simp]
      exact k H2 e2
  · cases hu
theorem same_none (E : En K mg) : Good P w K mg base CX0 0 "_law_same" ["found", "due"] (spSame 0 K) := by
  obtain ⟨fd, F⟩ := E.says.def_ 10 (d := d__law_same) rfl
  have no : ∀ vs H Q E', ¬ spSame 0 K vs H Q E' := fun vs H Q E' h => by
    obtain ⟨u, v, d, _, _, _, hd, _⟩ := h
    omega
  exact ⟨fd, ⟨fun vs H Q E' h => absurd h (no vs H Q E'), fun A outer s H args us vs Q E' _ _ _ _ h => absurd h (no vs H Q E')⟩, F.bindsN fun _ _ _ _ _ _ us hl => match us, hl with | [_, _], _ => rfl, F.kp, E.gl "_law_same"⟩
theorem same_all (E : En K mg) : ∀ n : Nat, Good P w K mg base CX0 n "_law_same" ["found", "due"] (spSame n K)
  | 0 => same_none E
  | n + 1 => same_step E (same_all E n)
theorem ok__law_same (E : En K mg) : Good P w K mg base CX0 12 "_law_same" ["found", "due"] (sp__law_same K) := same_all E 12


/-! ### _law_led -/
/-- where moves lead, if they lead there without a negative number -/
def sp__law_led (K : PySem.W.Frag) : Sp := fun vs H Q _ => ∃ (v : V) (a : Addr) (us : List V) (x y u w : Nat) (ms : List Mv), vs = [v, .ref a] ∧ PairAt K H v x y ∧ SqL K H a us ∧ DpAll K H us (ms.map mvD) ∧ x < 2 ^ 4000 ∧ y < 2 ^ 4000 ∧ leads (2 ^ 4000) (x, y) ms = some (u, w) ∧ mcnt ms < 2 ^ 4010 ∧
  ∀ (t : Addr) (H' : Hp), Same H H' → H' t = some (.tup [.int (u : Int), .int (w : Int)]) → Q (.ref t) H'
theorem leads_take {B : Nat} {p q : Nat × Nat} {ms : List Mv} {i : Nat} {m : Mv} (h : leads B p ms = some q) (hi : ms[i]? = some m) : ∃ p1 p2, leads B p (ms.take i) = some p1 ∧ go1 B p1 m = some p2 ∧ leads B p (ms.take (i + 1)) = some p2 := by
  have e : ms = ms.take i ++ (m :: ms.drop (i + 1)) := by
    obtain ⟨h1, h2⟩ := List.getElem?_eq_some_iff.mp hi
    rw [← h2, ← List.drop_eq_getElem_cons h1, List.take_append_drop]
  have h' := h
  rw [e, leads_app] at h'
  obtain ⟨p1, e1, h'⟩ := Option.bind_eq_some_iff.mp h'
  obtain ⟨p2, e2, h'⟩ := Option.bind_eq_some_iff.mp (show (go1 B p1 m).bind _ = some q from h')
  refine ⟨p1, p2, e1, e2, ?_⟩
  rw [List.take_add_one, hi, leads_app, e1, Option.bind_some]
  show (go1 B p1 m).bind (fun q => some q) = _
  rw [e2]
  rfl
theorem go1_un {B : Nat} {p q : Nat × Nat} {m : Mv} (h : go1 B p m = some q) : 0 < m.2.2 ∧ q.1 < B ∧ q.2 < B ∧ (match m with
    | (true, true, n) => q = (p.1 + n * p.2, p.2)
    | (true, false, n) => q = (p.1, p.2 + n * p.1)
    | (false, true, n) => n * p.2 ≤ p.1 ∧ q = (p.1 - n * p.2, p.2)
    | (false, false, n) => n * p.1 ≤ p.2 ∧ q = (p.1, p.2 - n * p.1)) := by
  unfold go1 at h
  obtain ⟨z, hz, h⟩ := Option.bind_eq_some_iff.mp h
  by_cases c : 0 < m.2.2 ∧ z.1 < B ∧ z.2 < B
  · rw [if_pos c] at h
    cases h
    refine ⟨c.1, c.2.1, c.2.2, ?_⟩
    match m, hz with
    | (true, true, n), hz => exact (Option.some.inj hz).symm
    | (true, false, n), hz => exact (Option.some.inj hz).symm
    | (false, true, n), hz =>
      by_cases g : n * p.2 ≤ p.1
      · simp only [if_pos g] at hz
        exact ⟨g, (Option.some.inj hz).symm⟩
      · simp only [if_neg g] at hz
        cases hz
    | (false, false, n), hz =>
      by_cases g : n * p.1 ≤ p.2
      · simp only [if_pos g] at hz
        exact ⟨g, (Option.some.inj hz).symm⟩
      · simp only [if_neg g] at hz
        cases hz
  · rw [if_neg c] at h
    cases h
theorem leads_bd {B : Nat} : ∀ {ms : List Mv} {p q : Nat × Nat}, leads B p ms = some q → p.1 < B → p.2 < B → q.1 < B ∧ q.2 < B
  | [], p, q, h, h1, h2 => by cases h; exact ⟨h1, h2⟩
  | m :: ms, p, q, h, _, _ => by
    obtain ⟨z, hz, h⟩ := Option.bind_eq_some_iff.mp (show (go1 B p m).bind _ = some q from h)
    have := go1_un hz
    exact leads_bd h this.2.1 this.2.2.1

theorem sc__law_led : FnScope ["one_z", "moves", "x", "y", "word", "axis", "count", "size"] ["one_z", "moves"] (defScope s__law_led) := ⟨rfl, rfl, rfl, by decide +kernel, rfl, by decide +kernel, by decide +kernel⟩
theorem ok__law_led (E : En K mg) : Good P w K mg base CX0 1 "_law_led" ["one_z", "moves"] (sp__law_led K) := by
  obtain ⟨fd, F⟩ := E.says.def_ 11 (d := d__law_led) rfl
  refine ⟨fd, ?_, F.bindsN fun _ _ _ _ _ _ us hl => match us, hl with | [_, _], _ => rfl, F.kp, E.gl "_law_led"⟩
  refine F.ok sc__law_led (fun vs H Q E' h => ?_) (fun cdv A outer s H vs Q E' hr h => ?_)
  · obtain ⟨v, a, us, x, y, u, w, ms, rfl, _⟩ := h; rfl
  · have hu64 := hu64_of hr
    refine ⟨_, PSs.nox (pss_cons (ps_asg (pv 0) (pg_tup rfl (pgs_cons (pg_name (i := 2) sc__law_led.nd rfl (by first | exact Or.inl rfl | exact Or.inr rfl)) (pgs_cons (pg_name (i := 3) sc__law_led.nd rfl (by first | exact Or.inl rfl | exact Or.inr rfl)) pgs_nil))))
      (pss_cons (ps_for PassesOwn.never rfl (pi_list (pv 1)) (pg_tup rfl (pgs_cons (pg_name (i := 4) sc__law_led.nd rfl (by first | exact Or.inl rfl | exact Or.inr rfl)) (pgs_cons (pg_name (i := 5) sc__law_led.nd rfl (by first | exact Or.inl rfl | exact Or.inr rfl)) (pgs_cons (pg_name (i := 6) sc__law_led.nd rfl (by first | exact Or.inl rfl | exact Or.inr rfl)) pgs_nil))))
        (pss_cons (ps_set (i := 7) sc__law_led.nd rfl (by first | exact Or.inl rfl | exact Or.inr rfl) (pe_ifExp (pt_cmpR op_eq (pv 4) pe_str (nomark _)) (pv 6) (pe_un un_neg (pv 6))))
      (pss_cons (ps_asg (pe_ifExp (pt_cmpR op_eq (pv 5) pe_str (nomark _)) (pe_tup (pa_cons (pe_op op_add (pv 2) (pe_op op_mulW (pv 7) (pv 3))) (pa_cons (pv 3) pa_nil))) (pe_tup (pa_cons (pv 2) (pa_cons (pe_op op_add (pv 3) (pe_op op_mulW (pv 7) (pv 2))) pa_nil)))) (pg_tup rfl (pgs_cons (pg_name (i := 2) sc__law_led.nd rfl (by first | exact Or.inl rfl | exact Or.inr rfl)) (pgs_cons (pg_name (i := 3) sc__law_led.nd rfl (by first | exact Or.inl rfl | exact Or.inr rfl)) pgs_nil))))
      (pss_one (ps_if (PW.pt (pw_or (pt_cmpR op_lt (pv 2) pe_int (nomark _)) (pw_or (pt_cmpR op_lt (pv 3) pe_int (nomark _)) (pw_or1 (pt_cmpR op_lt (pv 6) pe_int (nomark _))))))
        (pss_one (ps_ret pe_non))
        pss_nil)))))
      (pss_one (ps_ret (pe_tup (pa_cons (pv 2) (pa_cons (pv 3) pa_nil))))))), ?_⟩
    obtain ⟨v, a, us, x, y, u, w, ms, rfl, ⟨pa, rfl, hP⟩, hA, dA, bx, bY, hL, hC, k⟩ := h
    have s2 : 2 ≤ sizeLine := by decide
    have lA := DpAll.length dA
    rw [List.length_map] at lA
    refine ⟨_, rfl, pa, _, rfl, hP, rfl, _, _, rfl, _, _, rfl, rfl, ?_⟩
    refine ⟨_, rfl, a, rfl, ⟨_, hA⟩, for_list (K := K) (a := a) (xs := us) (fun i σ H' => ∃ (c d : Nat) (s4 s5 s6 s7 : Option V), σ = [some (.ref pa), some (.ref a), some (.int (c : Int)), some (.int (d : Int)), s4, s5, s6, s7] ∧ Same H H' ∧ leads (2 ^ 4000) (x, y) (ms.take i) = some (c, d))
      ⟨x, y, _, _, _, _, rfl, Same.refl _, rfl⟩ (fun i σ H' _ ⟨_, _, _, _, _, _, _, e, _⟩ => e.seq hA) ?_ ?_⟩
    · rintro i z σ H1 hz ⟨c, d, _, _, _, _, rfl, e1, hl⟩
      obtain ⟨dd, hd, dz⟩ := DpAll.get (Dp.sameAll e1 dA) hz
      obtain ⟨⟨wd, ax, n⟩, hm, rfl⟩ : ∃ m, ms[i]? = some m ∧ mvD m = dd := by
        rw [List.getElem?_map] at hd
        cases q : ms[i]? with
        | none => rw [q] at hd; cases hd
        | some r => rw [q] at hd; exact ⟨r, rfl, Option.some.inj hd⟩
      obtain ⟨pz, rfl, hpz⟩ := Dp.triple dz
      obtain ⟨p1, p2, q1, q2, q3⟩ := leads_take hL hm
      rw [hl] at q1
      cases q1
      have bd := leads_bd hl bx bY
      have un := go1_un q2
      obtain ⟨n0, u1, u2, um⟩ := un
      have hn : n < 2 ^ 4010 := Nat.lt_of_le_of_lt (cnt_le (List.mem_of_getElem? hm)) hC
      have n0' : 0 < n := n0
      have okm : ∀ (s : Int) (j : Nat), s.natAbs = n → j < 2 ^ 4000 → CMulW s (j : Int) := fun s j hs hj => wide_mul (a := 4010) (b := 4000) (by rw [hs]; exact hn) (nat_abs hj) (by decide) (by decide) (by decide)
      refine ⟨pz, _, rfl, hpz, rfl, _, _, rfl, _, _, rfl, _, _, rfl, rfl, ?_⟩
      rcases wd with _ | _ <;> rcases ax with _ | _
      · -- take y
        obtain ⟨hle, hu⟩ : n * c ≤ d ∧ p2 = (c, d - n * c) := um
        subst hu
        have ex : (d : Int) + -(n : Int) * (c : Int) = ((d - n * c : Nat) : Int) := by rw [Int.neg_mul, Int.ofNat_sub hle, Int.natCast_mul]; omega
        refine ⟨_, rfl, rfl, _, rfl, ?_⟩
        refine ite_f (by show decide (V.str "take" = V.str "add") = false; decide +kernel) ⟨_, rfl, _, rfl, _, rfl, rfl, _, rfl, ?_⟩
        refine ite_f (by show decide (V.str "y" = V.str "x") = false; decide +kernel) ⟨_, rfl, _, rfl, _, rfl, _, rfl, _, _, rfl, rfl, okm _ _ (by rw [Int.natAbs_neg, Int.natAbs_natCast]) (leads_bd hl bx bY).1, _, _, rfl, rfl, s2, ?_⟩
        dsimp only; rw [ex]
        intro t ht
        refine ⟨t, _, rfl, SqT.of upd_same, rfl, _, _, rfl, _, _, rfl, rfl, ?_⟩
        refine ⟨_, rfl, _, _, rfl, rfl, _, rfl, ?_⟩
        refine ite_f (decide_eq_false (by omega)) ⟨_, rfl, _, _, rfl, rfl, _, rfl, ?_⟩
        refine ite_f (decide_eq_false (by omega)) ⟨_, rfl, _, _, rfl, rfl, _, rfl, ?_⟩
        refine ite_f (decide_eq_false (by omega)) ⟨c, (d - n * c), _, _, _, _, rfl, e1.trans (same_new ht), q3⟩
      · -- take x
        obtain ⟨hle, hu⟩ : n * d ≤ c ∧ p2 = (c - n * d, d) := um
        subst hu
        have ex : (c : Int) + -(n : Int) * (d : Int) = ((c - n * d : Nat) : Int) := by rw [Int.neg_mul, Int.ofNat_sub hle, Int.natCast_mul]; omega
        refine ⟨_, rfl, rfl, _, rfl, ?_⟩
        refine ite_f (by show decide (V.str "take" = V.str "add") = false; decide +kernel) ⟨_, rfl, _, rfl, _, rfl, rfl, _, rfl, ?_⟩
        refine ite_t (by show decide (V.str "x" = V.str "x") = true; decide +kernel) ⟨_, rfl, _, rfl, _, rfl, _, _, rfl, rfl, okm _ _ (by rw [Int.natAbs_neg, Int.natAbs_natCast]) (leads_bd hl bx bY).2, _, _, rfl, rfl, _, rfl, s2, ?_⟩
        dsimp only; rw [ex]
        intro t ht
        refine ⟨t, _, rfl, SqT.of upd_same, rfl, _, _, rfl, _, _, rfl, rfl, ?_⟩
        refine ⟨_, rfl, _, _, rfl, rfl, _, rfl, ?_⟩
        refine ite_f (decide_eq_false (by omega)) ⟨_, rfl, _, _, rfl, rfl, _, rfl, ?_⟩
        refine ite_f (decide_eq_false (by omega)) ⟨_, rfl, _, _, rfl, rfl, _, rfl, ?_⟩
        refine ite_f (decide_eq_false (by omega)) ⟨(c - n * d), d, _, _, _, _, rfl, e1.trans (same_new ht), q3⟩
      · -- add y
        have hu : p2 = (c, d + n * c) := um
        subst hu
        have ex : (d : Int) + (n : Int) * (c : Int) = ((d + n * c : Nat) : Int) := by rw [Int.natCast_add, Int.natCast_mul]
        refine ⟨_, rfl, rfl, _, rfl, ?_⟩
        refine ite_t (by show decide (V.str "add" = V.str "add") = true; decide +kernel) ⟨_, rfl, _, rfl, rfl, _, rfl, ?_⟩
        refine ite_f (by show decide (V.str "y" = V.str "x") = false; decide +kernel) ⟨_, rfl, _, rfl, _, rfl, _, rfl, _, _, rfl, rfl, okm _ _ (by rw [Int.natAbs_natCast]) (leads_bd hl bx bY).1, _, _, rfl, rfl, s2, ?_⟩
        dsimp only; rw [ex]
        intro t ht
        refine ⟨t, _, rfl, SqT.of upd_same, rfl, _, _, rfl, _, _, rfl, rfl, ?_⟩
        refine ⟨_, rfl, _, _, rfl, rfl, _, rfl, ?_⟩
        refine ite_f (decide_eq_false (by omega)) ⟨_, rfl, _, _, rfl, rfl, _, rfl, ?_⟩
        refine ite_f (decide_eq_false (by omega)) ⟨_, rfl, _, _, rfl, rfl, _, rfl, ?_⟩
        refine ite_f (decide_eq_false (by omega)) ⟨c, (d + n * c), _, _, _, _, rfl, e1.trans (same_new ht), q3⟩
      · -- add x
        have hu : p2 = (c + n * d, d) := um
        subst hu
        have ex : (c : Int) + (n : Int) * (d : Int) = ((c + n * d : Nat) : Int) := by rw [Int.natCast_add, Int.natCast_mul]
        refine ⟨_, rfl, rfl, _, rfl, ?_⟩
        refine ite_t (by show decide (V.str "add" = V.str "add") = true; decide +kernel) ⟨_, rfl, _, rfl, rfl, _, rfl, ?_⟩
        refine ite_t (by show decide (V.str "x" = V.str "x") = true; decide +kernel) ⟨_, rfl, _, rfl, _, rfl, _, _, rfl, rfl, okm _ _ (by rw [Int.natAbs_natCast]) (leads_bd hl bx bY).2, _, _, rfl, rfl, _, rfl, s2, ?_⟩
        dsimp only; rw [ex]
        intro t ht
        refine ⟨t, _, rfl, SqT.of upd_same, rfl, _, _, rfl, _, _, rfl, rfl, ?_⟩
        refine ⟨_, rfl, _, _, rfl, rfl, _, rfl, ?_⟩
        refine ite_f (decide_eq_false (by omega)) ⟨_, rfl, _, _, rfl, rfl, _, rfl, ?_⟩
        refine ite_f (decide_eq_false (by omega)) ⟨_, rfl, _, _, rfl, rfl, _, rfl, ?_⟩
        refine ite_f (decide_eq_false (by omega)) ⟨(c + n * d), d, _, _, _, _, rfl, e1.trans (same_new ht), q3⟩
    · rintro σ H1 ⟨c, d, _, _, _, _, rfl, e1, hl⟩
      rw [lA, List.take_length, hL] at hl
      cases hl
      refine ⟨_, rfl, _, rfl, s2, fun t ht => ?_⟩
      exact k t _ (e1.trans (same_new ht)) upd_same

/-! ### _law_gcd -/
def sp__law_gcd (K : PySem.W.Frag) : Sp := fun vs H Q _ => ∃ x y : Nat, vs = [.int (x : Int), .int (y : Int)] ∧ Q (.int ((Nat.gcd x y : Nat) : Int)) H

theorem sc__law_gcd : FnScope ["x", "y"] ["x", "y"] (defScope s__law_gcd) := ⟨rfl, rfl, rfl, by decide +kernel, rfl, by decide +kernel, by decide +kernel⟩
theorem ok__law_gcd (E : En K mg) : Good P w K mg base CX0 1 "_law_gcd" ["x", "y"] (sp__law_gcd K) := by
  obtain ⟨fd, F⟩ := E.says.def_ 12 (d := d__law_gcd) rfl
  refine ⟨fd, ?_, F.bindsN fun _ _ _ _ _ _ us hl => match us, hl with | [_, _], _ => rfl, F.kp, E.gl "_law_gcd"⟩
  refine F.ok sc__law_gcd (fun vs H Q E' h => ?_) (fun cdv A outer s H vs Q E' hr h => ?_)
  · obtain ⟨x, y, rfl, _⟩ := h; rfl
  · have hu64 := hu64_of hr
    refine ⟨_, PSs.nox (pss_cons (ps_while PassesOwn.never (pt_cmpR op_gt (pv 1) pe_int (nomark _))
        (pss_one (ps_par (i := 0) (j := 1) rfl sc__law_gcd.nd rfl rfl (by decide) rfl rfl (pa_cons (pv 1) (pa_cons (pe_op op_mod (pe_callTy call_int1 (by rfl) (E.fr "int") (by decide +kernel) (pa_cons (pv 0) pa_nil)) (pv 1)) pa_nil)) rfl)))
      (pss_one (ps_ret (pv 0)))), ?_⟩
    obtain ⟨x, y, rfl, k⟩ := h
    refine ⟨fun m σ H' => ∃ a b : Nat, m = b ∧ σ = [some (.int (a : Int)), some (.int (b : Int))] ∧ H' = H ∧ Nat.gcd a b = Nat.gcd x y, ⟨y, x, y, rfl, rfl, rfl, rfl⟩, ?_⟩
    rintro m σ H' ⟨a, b, rfl, rfl, rfl, hg⟩
    refine ⟨_, rfl, _, _, rfl, rfl, _, rfl, ?_⟩
    refine ite2 (fun c => ?_) (fun c => ?_)
    · have c' : (0 : Int) < (m : Int) := of_decide_eq_true c
      refine ⟨fun σ' H'' => ∃ m', m' < m ∧ ∃ a b : Nat, m' = b ∧ σ' = [some (.int (a : Int)), some (.int (b : Int))] ∧ H'' = H' ∧ Nat.gcd a b = Nat.gcd x y, fun _ _ q => q, ?_⟩
      refine ⟨_, rfl, _, rfl, .inl ⟨_, rfl, _, rfl, _, _, rfl, rfl, c', _, _, rfl, ?_⟩⟩
      refine ⟨a % m, Nat.mod_lt _ (by omega), m, a % m, rfl, ?_, rfl, ?_⟩
      · show [some (V.int (m : Int)), some (V.int ((a : Int) % (m : Int)))] = _
        rw [Int.natCast_emod]
      · rw [← hg, Nat.gcd_comm m, Nat.gcd_comm a m, ← Nat.gcd_rec]
    · have c' : ¬ (0 : Int) < (m : Int) := of_decide_eq_false (Bool.eq_false_iff.mpr c)
      have e : m = 0 := by omega
      subst e
      rw [Nat.gcd_zero_right] at hg
      refine ⟨_, rfl, ?_⟩
      show Q (.int (a : Int)) H'
      rw [hg]
      exact k

/-! ### _law_pull -/
/-- a draw: some number from 0 on and below the amount; the bag alone has changed -/
def sp__law_pull (K : PySem.W.Frag) : Sp := fun vs H Q _ => ∃ (b : Addr) (n : Int), vs = [.ref b, .int n] ∧ Bag H b ∧ 0 < n ∧ n < 1073741824 ∧ ∀ (r : Int) (H' : Hp), 0 ≤ r → r < n → Bag H' b → Kp b H H' → Q (.int r) H'
theorem at4_0 (a b c d : V) : atI [a, b, c, d] 0 = some a := rfl
theorem at4_1 (a b c d : V) : atI [a, b, c, d] 1 = some b := rfl
theorem at4_2 (a b c d : V) : atI [a, b, c, d] 2 = some c := rfl
theorem at4_3 (a b c d : V) : atI [a, b, c, d] 3 = some d := rfl
/-- the bag behind the first if -/
def pullMid (b : Addr) (n : Int) (H : Hp) : L2.St → Hp → Prop := fun σ H' => Bag H' b ∧ Kp b H H' ∧ ∃ v, σ = [some (.ref b), some (.int n), v, none, none]
theorem bag_put {H : Hp} {b c : Addr} {xs : List Int} {i hold seed : Int} {o : HO} (h : o = .lst [.ref c, .int i, .int hold, .int seed]) (h2 : H c = some (.lst (xs.map V.int))) (ne : b ≠ c) (h3 : xs.length ≤ 63) (h4 : 0 ≤ i) (h5 : 0 ≤ hold) (h6 : 0 ≤ seed) (h7 : seed < 2147483647) : Bag (upd H b o) b :=
  ⟨c, xs, i, hold, seed, by rw [upd_same, h], by rw [upd_ne ne.symm]; exact h2, ne, h3, h4, h5, h6, h7⟩

theorem sc__law_pull : FnScope ["bag", "amount", "cell", "got", "seed"] ["bag", "amount"] (defScope s__law_pull) := ⟨rfl, rfl, rfl, by decide +kernel, rfl, by decide +kernel, by decide +kernel⟩
theorem ok__law_pull (E : En K mg) : Good P w K mg base CX0 1 "_law_pull" ["bag", "amount"] (sp__law_pull K) := by
  obtain ⟨fd, F⟩ := E.says.def_ 13 (d := d__law_pull) rfl
  refine ⟨fd, ?_, F.bindsN fun _ _ _ _ _ _ us hl => match us, hl with | [_, _], _ => rfl, F.kp, E.gl "_law_pull"⟩
  refine F.ok sc__law_pull (fun vs H Q E' h => ?_) (fun cdv A outer s H vs Q E' hr h => ?_)
  · obtain ⟨b, n, rfl, _⟩ := h; rfl
  · have hu64 := hu64_of hr
    refine ⟨_, PSs.nox (C8.pss_cut (ps_if (PW.pt (pw_and (pt_cmpR op_eq (pe_ix ix_list (pv 0) pe_int (fun _ _ => rfl)) pe_int (nomark _)) (pw_and1 (pt_cmpR op_lt (pe_ix ix_list (pv 0) pe_int (fun _ _ => rfl)) (pe_callB call_len_seq (by rfl) (E.fr "len") (by decide +kernel) (pa_cons (pe_ix ix_list (pv 0) pe_int (fun _ _ => rfl)) pa_nil)) (nomark _)))))
        (pss_cons (ps_set (i := 2) sc__law_pull.nd rfl (by first | exact Or.inl rfl | exact Or.inr rfl) (pe_ix ix_list (pe_ix ix_list (pv 0) pe_int (fun _ _ => rfl)) (pe_ix ix_list (pv 0) pe_int (fun _ _ => rfl)) (fun _ _ => rfl)))
      (pss_cons (ps_asg (pe_op op_add (pe_ix ix_list (pv 0) pe_int (fun _ _ => rfl)) pe_int) (pg_sub (pv 0) pe_int set_list))
      (pss_one (ps_if (pt_cmpR op_ge (pv 2) (pe_op op_pow pe_int pe_int) (nomark _))
        (pss_one (ps_asg (pv 2) (pg_sub (pv 0) pe_int set_list)))
        (pss_one (ps_asg (pe_op op_mod (pe_callTy call_int1 (by rfl) (E.fr "int") (by decide +kernel) (pa_cons (pe_op op_add (pe_op op_add (pe_op op_mul (pe_ix ix_list (pv 0) pe_int (fun _ _ => rfl)) pe_int) (pe_op op_mul (pe_op op_mod (pe_callTy call_int1 (by rfl) (E.fr "int") (by decide +kernel) (pa_cons (pv 2) pa_nil)) pe_int) pe_int)) pe_int) pa_nil)) pe_int) (pg_sub (pv 0) pe_int set_list)))))))
        pss_nil)
      (pss_cons (ps_if (pt_cmpR op_gt (pe_ix ix_list (pv 0) pe_int (fun _ _ => rfl)) pe_int (nomark _))
        (pss_cons (ps_set (i := 3) sc__law_pull.nd rfl (by first | exact Or.inl rfl | exact Or.inr rfl) (pe_op op_mod (pe_callTy call_int1 (by rfl) (E.fr "int") (by decide +kernel) (pa_cons (pe_ix ix_list (pv 0) pe_int (fun _ _ => rfl)) pa_nil)) (pv 1)))
      (pss_cons (ps_asg (pe_op op_fdiv (pe_ix ix_list (pv 0) pe_int (fun _ _ => rfl)) (pv 1)) (pg_sub (pv 0) pe_int set_list))
      (pss_one (ps_ret (pv 3)))))
        pss_nil)
      (pss_cons (ps_set (i := 4) sc__law_pull.nd rfl (by first | exact Or.inl rfl | exact Or.inr rfl) (pe_ix ix_list (pv 0) pe_int (fun _ _ => rfl)))
      (pss_cons (ps_asg (pe_op op_mod (pe_callTy call_int1 (by rfl) (E.fr "int") (by decide +kernel) (pa_cons (pe_op op_add (pe_op op_add (pe_op op_mul (pv 4) (pv 4)) (pe_op op_mul (pv 4) pe_int)) pe_int) pa_nil)) pe_int) (pg_sub (pv 0) pe_int set_list))
      (pss_one (ps_ret (pe_op op_mod (pe_callTy call_int1 (by rfl) (E.fr "int") (by decide +kernel) (pa_cons (pe_op op_add (pe_op op_fdiv (pe_ix ix_list (pv 0) pe_int (fun _ _ => rfl)) pe_int) (pe_op op_mul (pe_op op_mod (pe_callTy call_int1 (by rfl) (E.fr "int") (by decide +kernel) (pa_cons (pe_ix ix_list (pv 0) pe_int (fun _ _ => rfl)) pa_nil)) pe_int) pe_int)) pa_nil)) (pv 1)))))))), ?_⟩
    obtain ⟨b, n, rfl, B, hn, hn2, k⟩ := h
    refine ⟨pullMid b n H, ?_, ?_⟩
    · obtain ⟨c, xs, i, hold, seed, h1, h2, ne, h3, h4, h5, h6, h7⟩ := B.ex
      refine ⟨_, rfl, b, _, _, _, rfl, rfl, SqL.of h1, at4_2 _ _ _ _, rfl, _, rfl, ?_⟩
      by_cases c0 : hold = 0
      · subst c0
        refine ite_t (deq rfl) ?_
        refine ⟨_, rfl, b, _, _, _, rfl, rfl, SqL.of h1, at4_1 _ _ _ _, _, rfl, b, _, _, _, rfl, rfl, SqL.of h1, at4_0 _ _ _ _, c, _, rfl, .inl (SqL.of h2), _, _, rfl, rfl, _, rfl, ?_⟩
        refine ite2 (fun cl => ?_) (fun _ => ⟨B, Kp.refl _ _, _, rfl⟩)
        have cl' : i < ((xs.map V.int).length : Int) := of_decide_eq_true cl
        rw [List.length_map] at cl'
        have hi : i.toNat < xs.length := by omega
        have ei : ((i.toNat : Nat) : Int) = i := by omega
        have ha : atI (xs.map V.int) i = some (.int xs[i.toNat]) := by
          have q : atI (xs.map V.int) ((i.toNat : Nat) : Int) = some (.int xs[i.toNat]) := atI_nat (by rw [List.getElem?_map, List.getElem?_eq_getElem hi] <;> rfl)
          rw [ei] at q
          exact q
        -- cell = bag[0][bag[1]]
        refine ⟨_, rfl, b, _, _, _, rfl, rfl, SqL.of h1, at4_0 _ _ _ _, _, rfl, b, _, _, _, rfl, rfl, SqL.of h1, at4_1 _ _ _ _, c, _, _, _, rfl, rfl, SqL.of h2, ha, ?_⟩
        -- bag[1] = bag[1] + 1
        refine ⟨_, rfl, b, _, _, _, rfl, rfl, SqL.of h1, at4_1 _ _ _ _, _, _, rfl, rfl, _, rfl, b, _, _, 1, rfl, rfl, h1, rfl, ?_⟩
        have g1 : (upd H b (.lst [.ref c, .int (i + 1), .int 0, .int seed])) b = some (.lst [.ref c, .int (i + 1), .int 0, .int seed]) := upd_same
        have g2 : (upd H b (.lst [.ref c, .int (i + 1), .int 0, .int seed])) c = some (.lst (xs.map V.int)) := by rw [upd_ne ne.symm]; exact h2
        -- if cell >= 10 ** 18
        refine ⟨_, rfl, _, _, rfl, rfl, ⟨by decide, by decide, by decide⟩, _, _, rfl, rfl, _, rfl, ?_⟩
        refine ite2 (fun cc => ?_) (fun _ => ?_)
        · have cc' : (10 : Int) ^ (18 : Int).toNat ≤ xs[i.toNat] := of_decide_eq_true cc
          have c0 : 0 ≤ xs[i.toNat] := Int.le_trans (by decide) cc'
          refine ⟨_, rfl, _, rfl, b, _, _, 2, rfl, rfl, g1, rfl, ?_⟩
          exact ⟨bag_put rfl g2 ne h3 (by omega) c0 h6 h7, Kp.put.trans Kp.put, _, rfl⟩
        · refine ⟨_, rfl, b, _, _, _, rfl, rfl, SqL.of g1, at4_3 _ _ _ _, _, _, rfl, rfl, .inr ⟨by decide, by decide⟩, _, rfl, .inl ⟨_, rfl, _, _, rfl, rfl, (by show (0 : Int) < _; decide), _, _, rfl, rfl, .inr ⟨by decide, by decide⟩, _, _, rfl, rfl, _, _, rfl, rfl, .inl ⟨_, rfl, _, _, rfl, rfl, (by show (0 : Int) < _; decide), ?_⟩⟩⟩
          refine ⟨_, rfl, b, _, _, 3, rfl, rfl, g1, rfl, ?_⟩
          have q := emod_bd (seed * 40699 + xs[i.toNat] % 2147483587 * 69691 + 13) (m := 2147483647) (by decide)
          exact ⟨bag_put rfl g2 ne h3 (by omega) (by decide) q.1 q.2, Kp.put.trans Kp.put, _, rfl⟩
      · exact ite_f (dne c0) (ite_f rfl ⟨B, Kp.refl _ _, _, rfl⟩)
    · rintro σ H1 ⟨B1, kp, v, rfl⟩
      obtain ⟨c, xs, i, hold, seed, h1, h2, ne, h3, h4, h5, h6, h7⟩ := B1.ex
      refine ⟨_, rfl, b, _, _, _, rfl, rfl, SqL.of h1, at4_2 _ _ _ _, _, _, rfl, rfl, _, rfl, ?_⟩
      refine ite2 (fun _ => ?_) (fun _ => ?_)
      · -- got = int(bag[2]) % amount; bag[2] = bag[2] // amount; return got
        refine ⟨_, rfl, b, _, _, _, rfl, rfl, SqL.of h1, at4_2 _ _ _ _, .inl ⟨_, rfl, _, rfl, _, _, rfl, rfl, hn, ?_⟩⟩
        refine ⟨_, rfl, b, _, _, _, rfl, rfl, SqL.of h1, at4_2 _ _ _ _, _, rfl, _, _, rfl, rfl, ⟨hn, hn2⟩, _, rfl, b, _, _, 2, rfl, rfl, h1, rfl, _, rfl, ?_⟩
        have q := emod_bd hold (m := n) hn
        exact k _ _ q.1 q.2 (bag_put rfl h2 ne h3 h4 (Int.ediv_nonneg h5 (by omega)) h6 h7) (kp.trans Kp.put)
      · -- seed = bag[3]
        refine ⟨_, rfl, b, _, _, _, rfl, rfl, SqL.of h1, at4_3 _ _ _ _, ?_⟩
        refine ⟨_, rfl, _, rfl, _, _, rfl, rfl, .inr ⟨by omega, by omega⟩, _, rfl, _, _, rfl, rfl, .inr ⟨by decide, by decide⟩, _, _, rfl, rfl, _, _, rfl, rfl, .inl ⟨_, rfl, _, _, rfl, rfl, (by show (0 : Int) < _; decide), _, rfl, b, _, _, 3, rfl, rfl, h1, rfl, ?_⟩⟩
        have g1 : ∀ z : Int, (upd H1 b (.lst [.ref c, .int i, .int hold, .int z])) b = some (.lst [.ref c, .int i, .int hold, .int z]) := fun _ => upd_same
        refine ⟨_, rfl, b, _, _, _, rfl, rfl, SqL.of (g1 _), at4_3 _ _ _ _, _, _, rfl, rfl, ⟨by decide, by decide⟩, _, rfl, b, _, _, _, rfl, rfl, SqL.of (g1 _), at4_3 _ _ _ _, .inl ⟨_, rfl, _, _, rfl, rfl, (by show (0 : Int) < _; decide), _, _, rfl, rfl, .inr ⟨by decide, by decide⟩, _, _, rfl, rfl, .inl ⟨_, rfl, _, rfl, _, _, rfl, rfl, hn, ?_⟩⟩⟩
        have q := emod_bd (seed * seed + seed * 48271 + 1013904227) (m := 2147483647) (by decide)
        have r := emod_bd ((seed * seed + seed * 48271 + 1013904227) % 2147483647 / 97 + (seed * seed + seed * 48271 + 1013904227) % 2147483647 % 8191 * 67) (m := n) hn
        exact k _ _ r.1 r.2 (bag_put rfl h2 ne h3 h4 h5 q.1 q.2) (kp.trans Kp.put)

/-! ### _law_of -/
/-- one of the things of a list, whichever -/
def sp__law_of (K : PySem.W.Frag) : Sp := fun vs H Q _ => ∃ (b t : Addr) (xs : List V), vs = [.ref b, .ref t] ∧ Bag H b ∧ t ≠ b ∧ SqL K H t xs ∧ 0 < xs.length ∧ xs.length ≤ 1000 ∧ ∀ (i : Nat) (v : V) (H' : Hp), xs[i]? = some v → Bag H' b → Kp b H H' → Q v H'

theorem sc__law_of : FnScope ["bag", "things"] ["bag", "things"] (defScope s__law_of) := ⟨rfl, rfl, rfl, by decide +kernel, rfl, by decide +kernel, by decide +kernel⟩
theorem ok__law_of (E : En K mg) (G__law_pull : Good P w K mg base CX0 1 "_law_pull" ["bag", "amount"] (sp__law_pull K)) : Good P w K mg base CX0 2 "_law_of" ["bag", "things"] (sp__law_of K) := by
  obtain ⟨fd, F⟩ := E.says.def_ 14 (d := d__law_of) rfl
  refine ⟨fd, ?_, F.bindsN fun _ _ _ _ _ _ us hl => match us, hl with | [_, _], _ => rfl, F.kp, E.gl "_law_of"⟩
  refine F.ok sc__law_of (fun vs H Q E' h => ?_) (fun cdv A outer s H vs Q E' hr h => ?_)
  · obtain ⟨b, t, xs, rfl, _⟩ := h; rfl
  · have hu64 := hu64_of hr
    refine ⟨_, PSs.nox (pss_one (ps_ret (pe_ix ix_list (pv 1) (pe_G G__law_pull (hr.mono (by decide)) rfl pass0 (pa_cons (pv 0) (pa_cons (pe_callB call_len_seq (by rfl) (E.fr "len") (by decide +kernel) (pa_cons (pv 1) pa_nil)) pa_nil))) (fun _ _ => rfl)))), ?_⟩
    obtain ⟨b, t, xs, rfl, B, ne, hS, h0, h1, k⟩ := h
    refine ⟨_, rfl, _, rfl, _, rfl, t, xs, rfl, .inl hS, ?_⟩
    refine ⟨b, _, rfl, B, by omega, by omega, fun r H' r0 r1 B' kp => ?_⟩
    have hi : r.toNat < xs.length := by omega
    have ei : ((r.toNat : Nat) : Int) = r := by omega
    have ha : atI xs r = some xs[r.toNat] := by
      have q : atI xs ((r.toNat : Nat) : Int) = some xs[r.toNat] := atI_nat (List.getElem?_eq_getElem hi)
      rw [ei] at q
      exact q
    exact ⟨t, xs, _, _, rfl, rfl, kp.seq ne hS, ha, k r.toNat _ H' (List.getElem?_eq_getElem hi) B' kp⟩

/-! ### _law_far_pair -/
/-- some pair with runs of up to 10 ** 12 + 1000 letters; the bag alone has changed -/
def sp__law_far_pair (K : PySem.W.Frag) : Sp := fun vs H Q _ => ∃ b : Addr, vs = [.ref b] ∧ Bag H b ∧
  ∀ (v : V) (x y : Nat) (H' : Hp), PairAt K H' v x y → okP x y → (x < 2 ^ 3000 ∧ y < 2 ^ 3000) → Bag H' b → Kp b H H' → Q v H'
def farMid (b : Addr) (H : Hp) : L2.St → Hp → Prop := fun σ H' => ∃ (w k c : Option V) (x y : Nat), σ = [some (.ref b), w, some (.int (x : Int)), some (.int (y : Int)), k, c] ∧ okP x y ∧ (x < 2 ^ 3000 ∧ y < 2 ^ 3000) ∧ Bag H' b ∧ Kp b H H'
theorem far_step {x y c i : Nat} (hx : x < 2 ^ (10 + 50 * i)) (hy : y < 2 ^ (10 + 50 * i)) (hc : c < 2 ^ 41) : x + c * y < 2 ^ (10 + 50 * (i + 1)) := by
  have e : 10 + 50 * (i + 1) = (10 + 50 * i) + 50 := by omega
  rw [e, Nat.pow_add]
  have h1 : c * y ≤ 2 ^ 41 * 2 ^ (10 + 50 * i) := Nat.mul_le_mul (Nat.le_of_lt hc) (Nat.le_of_lt hy)
  have h2 : 0 < 2 ^ (10 + 50 * i) := Nat.pow_pos (by decide)
  omega
theorem far_mono {x i : Nat} (h : x < 2 ^ (10 + 50 * i)) : x < 2 ^ (10 + 50 * (i + 1)) := Nat.lt_of_lt_of_le h (Nat.pow_le_pow_right (by decide) (by omega))
theorem far_counts {xs : List V} {r1 r2 : Int} {j : Nat} {v : V} (e : xs = [.int 1, .int 2, .int 3, .int 7, .int (10 ^ (12 : Int).toNat + r1), .int (10 ^ (8 : Int).toNat + r2)]) (h : xs[j]? = some v) (a1 : 0 ≤ r1) (a2 : r1 < 1000) (b1 : 0 ≤ r2) (b2 : r2 < 97) :
    ∃ c : Nat, v = .int (c : Int) ∧ 0 < c ∧ c < 2 ^ 41 := by
  have e1 : (10 : Int) ^ (12 : Int).toNat = 1000000000000 := by decide
  have e2 : (10 : Int) ^ (8 : Int).toNat = 100000000 := by decide
  rw [e1, e2] at e
  subst e
  have ok : ∀ z : Int, 0 < z → z < 2199023255552 → V.int z = v → ∃ c : Nat, v = .int (c : Int) ∧ 0 < c ∧ c < 2 ^ 41 := fun z h1 h2 e => ⟨z.toNat, by rw [← e, show ((z.toNat : Nat) : Int) = z by omega], by omega, by omega⟩
  match j, h with
  | 0, h => exact ok _ (by omega) (by omega) (Option.some.inj h)
  | 1, h => exact ok _ (by omega) (by omega) (Option.some.inj h)
  | 2, h => exact ok _ (by omega) (by omega) (Option.some.inj h)
  | 3, h => exact ok _ (by omega) (by omega) (Option.some.inj h)
  | 4, h => exact ok _ (by omega) (by omega) (Option.some.inj h)
  | 5, h => exact ok _ (by omega) (by omega) (Option.some.inj h)
theorem two_words {j : Nat} {v : V} (h : ([.str "flat", .str "steep"] : List V)[j]? = some v) : ∃ z : Str, v = .str z := by
  match j, h with
  | 0, h => exact ⟨_, (Option.some.inj h).symm⟩
  | 1, h => exact ⟨_, (Option.some.inj h).symm⟩

theorem sc__law_far_pair : FnScope ["bag", "word", "x", "y", "k", "count"] ["bag"] (defScope s__law_far_pair) := ⟨rfl, rfl, rfl, by decide +kernel, rfl, by decide +kernel, by decide +kernel⟩
theorem ok__law_far_pair (E : En K mg) (G__law_pull : Good P w K mg base CX0 1 "_law_pull" ["bag", "amount"] (sp__law_pull K)) (G__law_of : Good P w K mg base CX0 2 "_law_of" ["bag", "things"] (sp__law_of K)) : Good P w K mg base CX0 3 "_law_far_pair" ["bag"] (sp__law_far_pair K) := by
  obtain ⟨fd, F⟩ := E.says.def_ 15 (d := d__law_far_pair) rfl
  refine ⟨fd, ?_, F.bindsN fun _ _ _ _ _ _ us hl => match us, hl with | [_], _ => rfl, F.kp, E.gl "_law_far_pair"⟩
  refine F.ok sc__law_far_pair (fun vs H Q E' h => ?_) (fun cdv A outer s H vs Q E' hr h => ?_)
  · obtain ⟨b, rfl, _⟩ := h; rfl
  · have hu64 := hu64_of hr
    refine ⟨_, PSs.nox (pss_cons (ps_set (i := 1) sc__law_far_pair.nd rfl (by first | exact Or.inl rfl | exact Or.inr rfl) pe_str)
      (pss_cons (ps_set (i := 2) sc__law_far_pair.nd rfl (by first | exact Or.inl rfl | exact Or.inr rfl) (pe_op op_add pe_int (pe_G G__law_pull (hr.mono (by decide)) rfl pass0 (pa_cons (pv 0) (pa_cons pe_int pa_nil)))))
      (pss_cons (ps_set (i := 3) sc__law_far_pair.nd rfl (by first | exact Or.inl rfl | exact Or.inr rfl) (pv 2))
      (pss_cons (ps_for PassesOwn.never rfl (pi_range1 rfl (E.fr "range") (pa_cons (pe_G G__law_pull (hr.mono (by decide)) rfl pass0 (pa_cons (pv 0) (pa_cons pe_int pa_nil))) pa_nil)) (pg_name (i := 4) sc__law_far_pair.nd rfl (by first | exact Or.inl rfl | exact Or.inr rfl))
        (pss_cons (ps_set (i := 5) sc__law_far_pair.nd rfl (by first | exact Or.inl rfl | exact Or.inr rfl) (pe_G G__law_of (hr.mono (by decide)) rfl pass0 (pa_cons (pv 0) (pa_cons (pe_lst (pa_cons pe_int (pa_cons pe_int (pa_cons pe_int (pa_cons pe_int (pa_cons (pe_op op_add (pe_op op_pow pe_int pe_int) (pe_G G__law_pull (hr.mono (by decide)) rfl pass0 (pa_cons (pv 0) (pa_cons pe_int pa_nil)))) (pa_cons (pe_op op_add (pe_op op_pow pe_int pe_int) (pe_G G__law_pull (hr.mono (by decide)) rfl pass0 (pa_cons (pv 0) (pa_cons pe_int pa_nil)))) pa_nil))))))) pa_nil))))
      (pss_one (ps_if (pt_cmpR op_eq (pe_op op_mod (pe_callTy call_int1 (by rfl) (E.fr "int") (by decide +kernel) (pa_cons (pv 4) pa_nil)) pe_int) pe_int (nomark _))
        (pss_one (ps_set (i := 2) sc__law_far_pair.nd rfl (by first | exact Or.inl rfl | exact Or.inr rfl) (pe_op op_add (pv 2) (pe_op op_mul (pv 5) (pv 3)))))
        (pss_one (ps_set (i := 3) sc__law_far_pair.nd rfl (by first | exact Or.inl rfl | exact Or.inr rfl) (pe_op op_add (pv 3) (pe_op op_mul (pv 5) (pv 2)))))))))
      (C8.pss_cut (ps_if (pt_cmpR op_eq (pe_G G__law_pull (hr.mono (by decide)) rfl pass0 (pa_cons (pv 0) (pa_cons pe_int pa_nil))) pe_int (nomark _))
        (pss_cons (ps_set (i := 1) sc__law_far_pair.nd rfl (by first | exact Or.inl rfl | exact Or.inr rfl) (pe_G G__law_of (hr.mono (by decide)) rfl pass0 (pa_cons (pv 0) (pa_cons (pe_lst (pa_cons pe_str (pa_cons pe_str pa_nil))) pa_nil))))
      (pss_one (ps_asg (pe_ifExp (pt_cmpR op_eq (pv 1) pe_str (nomark _)) (pe_tup (pa_cons (pv 2) (pa_cons pe_int pa_nil))) (pe_tup (pa_cons pe_int (pa_cons (pv 3) pa_nil)))) (pg_tup rfl (pgs_cons (pg_name (i := 2) sc__law_far_pair.nd rfl (by first | exact Or.inl rfl | exact Or.inr rfl)) (pgs_cons (pg_name (i := 3) sc__law_far_pair.nd rfl (by first | exact Or.inl rfl | exact Or.inr rfl)) pgs_nil))))))
        pss_nil)
      (pss_one (ps_ret (pe_ifExp (pt_cmpR op_eq (pe_G G__law_pull (hr.mono (by decide)) rfl pass0 (pa_cons (pv 0) (pa_cons pe_int pa_nil))) pe_int (nomark _)) (pe_tup (pa_cons (pv 2) (pa_cons (pv 3) pa_nil))) (pe_tup (pa_cons (pv 3) (pa_cons (pv 2) pa_nil))))))))))), ?_⟩
    obtain ⟨b, rfl, B, k⟩ := h
    refine ⟨_, rfl, b, _, rfl, B, by decide, by decide, fun r0 H1 r00 r01 B1 k1 => ⟨_, _, rfl, rfl, _, rfl, ?_⟩⟩
    refine ⟨_, rfl, b, _, rfl, B1, by decide, by decide, fun r1 H2 r10 r11 B2 k2 => ⟨_, rfl, by omega, by omega, ?_⟩⟩
    refine for_range (lo := 0) (n := r1.toNat) (fun i σ H' => ∃ (k c : Option V) (x y : Nat), σ = [some (.ref b), some (.str "even"), some (.int (x : Int)), some (.int (y : Int)), k, c] ∧ 0 < x ∧ 0 < y ∧ x < 2 ^ (10 + 50 * i) ∧ y < 2 ^ (10 + 50 * i) ∧ Bag H' b ∧ Kp b H H')
      ⟨none, none, (1 + r0).toNat, (1 + r0).toNat, ?_, by omega, by omega, by omega, by omega, B2, k1.trans k2⟩ ?_ ?_
    · rw [show (((1 + r0).toNat : Nat) : Int) = 1 + r0 by omega]
      rfl
    · rintro i σ H3 hi ⟨k', c, x, y, rfl, hx, hy, bx, bY, B3, k3⟩
      -- count = _law_of(bag, [..])
      refine ⟨_, rfl, _, _, rfl, rfl, ⟨by decide, by decide, by decide⟩, _, rfl, b, _, rfl, B3, by decide, by decide, fun r2 H4 r20 r21 B4 k4 => ⟨_, _, rfl, rfl, ?_⟩⟩
      refine ⟨_, _, rfl, rfl, ⟨by decide, by decide, by decide⟩, _, rfl, b, _, rfl, B4, by decide, by decide, fun r3 H5 r30 r31 B5 k5 => ⟨_, _, rfl, rfl, (by show 6 ≤ sizeLine; decide), fun t ht => ?_⟩⟩
      refine ⟨b, t, _, rfl, B5.keep (same_new ht), B5.ne ht, SqL.of upd_same, (by show 0 < 6; decide), (by show 6 ≤ 1000; decide), fun j v H6 hv B6 k6 => ?_⟩
      obtain ⟨cn, rfl, c0, c1⟩ := far_counts rfl hv r20 r21 r30 r31
      have kk : Kp b H H6 := k3.trans (k4.trans ((k5.new ht).trans k6))
      refine ⟨_, rfl, .inl ⟨_, rfl, _, _, rfl, rfl, (by show (0 : Int) < 2; decide), rfl, _, rfl, ?_⟩⟩
      refine ite2 (fun _ => ?_) (fun _ => ?_)
      · refine ⟨_, rfl, _, rfl, _, rfl, _, _, rfl, rfl, .inl ⟨by omega, by omega⟩, _, _, rfl, rfl, ?_⟩
        refine ⟨some (.int (0 + (i : Int))), some (.int (cn : Int)), x + cn * y, y, ?_, by omega, hy, far_step bx bY c1, far_mono bY, B6, kk⟩
        rw [Int.natCast_add, Int.natCast_mul]
        rfl
      · refine ⟨_, rfl, _, rfl, _, rfl, _, _, rfl, rfl, .inl ⟨by omega, by omega⟩, _, _, rfl, rfl, ?_⟩
        refine ⟨some (.int (0 + (i : Int))), some (.int (cn : Int)), x, y + cn * x, ?_, hx, by omega, far_mono bx, far_step bY bx c1, B6, kk⟩
        rw [Int.natCast_add, Int.natCast_mul]
        rfl
    · rintro σ H3 ⟨k', c, x, y, rfl, hx, hy, bx, bY, B3, k3⟩
      have big : ∀ z : Nat, z < 2 ^ (10 + 50 * r1.toNat) → z < 2 ^ 4000 := fun z h => Nat.lt_of_lt_of_le h (Nat.pow_le_pow_right (by decide) (by omega))
      have big3 : ∀ z : Nat, z < 2 ^ (10 + 50 * r1.toNat) → z < 2 ^ 3000 := fun z h => Nat.lt_of_lt_of_le h (Nat.pow_le_pow_right (by decide) (by omega))
      have p3 : 0 < 2 ^ 3000 := Nat.pow_pos (by decide)
      have okxy : okP x y := ⟨by omega, big x bx, big y bY⟩
      have bxy : x < 2 ^ 3000 ∧ y < 2 ^ 3000 := ⟨big3 x bx, big3 y bY⟩
      refine ⟨farMid b H, ?_, ?_⟩
      · refine ⟨_, rfl, b, _, rfl, B3, by decide, by decide, fun r4 H4 _ _ B4 k4 => ⟨rfl, _, rfl, ?_⟩⟩
        have k34 := k3.trans k4
        refine ite2 (fun _ => ?_) (fun _ => ⟨_, _, _, x, y, rfl, okxy, bxy, B4, k34⟩)
        refine ⟨_, rfl, (by show 2 ≤ sizeLine; decide), fun t ht => ?_⟩
        refine ⟨b, t, _, rfl, B4.keep (same_new ht), B4.ne ht, SqL.of upd_same, (by show 0 < 2; decide), (by show 2 ≤ 1000; decide), fun j v H5 hv B5 k5 => ?_⟩
        obtain ⟨z, rfl⟩ := two_words hv
        have k35 := (k34.new ht).trans k5
        refine ⟨_, rfl, rfl, _, rfl, ?_⟩
        refine ite2 (fun _ => ?_) (fun _ => ?_)
        · refine ⟨_, rfl, (by show 2 ≤ sizeLine; decide), fun p hp => ⟨p, _, rfl, SqT.of upd_same, rfl, _, _, rfl, _, _, rfl, rfl, ?_⟩⟩
          exact ⟨_, _, _, x, 0, rfl, ⟨by omega, okxy.2.1, Nat.pow_pos (by decide)⟩, ⟨bxy.1, p3⟩, B5.keep (same_new hp), k35.new hp⟩
        · refine ⟨_, rfl, (by show 2 ≤ sizeLine; decide), fun p hp => ⟨p, _, rfl, SqT.of upd_same, rfl, _, _, rfl, _, _, rfl, rfl, ?_⟩⟩
          exact ⟨_, _, _, 0, y, rfl, ⟨by omega, Nat.pow_pos (by decide), okxy.2.2⟩, ⟨p3, bxy.2⟩, B5.keep (same_new hp), k35.new hp⟩
      · rintro σ H4 ⟨w', k'', c', x, y, rfl, ok, b3, B4, k4⟩
        refine ⟨_, rfl, b, _, rfl, B4, by decide, by decide, fun r5 H5 _ _ B5 k5 => ⟨rfl, _, rfl, ?_⟩⟩
        refine ite2 (fun _ => ?_) (fun _ => ?_)
        · refine ⟨_, rfl, _, rfl, (by show 2 ≤ sizeLine; decide), fun p hp => ?_⟩
          exact k _ x y _ ⟨p, rfl, SqT.of upd_same⟩ ok b3 (B5.keep (same_new hp)) ((k4.trans k5).new hp)
        · refine ⟨_, rfl, _, rfl, (by show 2 ≤ sizeLine; decide), fun p hp => ?_⟩
          exact k _ y x _ ⟨p, rfl, SqT.of upd_same⟩ ⟨fun h => ok.1 ⟨h.2, h.1⟩, ok.2.2, ok.2.1⟩ b3.symm (B5.keep (same_new hp)) ((k4.trans k5).new hp)

/-! ### _law_pair -/
/-- some pair; the bag alone has changed -/
def sp__law_pair (K : PySem.W.Frag) : Sp := fun vs H Q _ => ∃ (b : Addr) (n : Nat), vs = [.ref b, .int (n : Int)] ∧ Bag H b ∧ 0 < n ∧ n < 100000 ∧
  ∀ (v : V) (x y : Nat) (H' : Hp), PairAt K H' v x y → ¬ (x = 0 ∧ y = 0) → x ≤ n + 3 → y ≤ n + 3 → Bag H' b → Kp b H H' → Q v H'

theorem sc__law_pair : FnScope ["bag", "top_z", "kind", "x", "y"] ["bag", "top_z"] (defScope s__law_pair) := ⟨rfl, rfl, rfl, by decide +kernel, rfl, by decide +kernel, by decide +kernel⟩
theorem ok__law_pair (E : En K mg) (G__law_pull : Good P w K mg base CX0 1 "_law_pull" ["bag", "amount"] (sp__law_pull K)) : Good P w K mg base CX0 2 "_law_pair" ["bag", "top_z"] (sp__law_pair K) := by
  obtain ⟨fd, F⟩ := E.says.def_ 16 (d := d__law_pair) rfl
  refine ⟨fd, ?_, F.bindsN fun _ _ _ _ _ _ us hl => match us, hl with | [_, _], _ => rfl, F.kp, E.gl "_law_pair"⟩
  refine F.ok sc__law_pair (fun vs H Q E' h => ?_) (fun cdv A outer s H vs Q E' hr h => ?_)
  · obtain ⟨b, n, rfl, _⟩ := h; rfl
  · have hu64 := hu64_of hr
    refine ⟨_, PSs.nox (pss_cons (ps_set (i := 2) sc__law_pair.nd rfl (by first | exact Or.inl rfl | exact Or.inr rfl) (pe_G G__law_pull (hr.mono (by decide)) rfl pass0 (pa_cons (pv 0) (pa_cons pe_int pa_nil))))
      (pss_cons (ps_par (i := 3) (j := 4) rfl sc__law_pair.nd rfl rfl (by decide) rfl rfl (pa_cons (pe_op op_add pe_int (pe_G G__law_pull (hr.mono (by decide)) rfl pass0 (pa_cons (pv 0) (pa_cons (pv 1) pa_nil)))) (pa_cons (pe_op op_add pe_int (pe_G G__law_pull (hr.mono (by decide)) rfl pass0 (pa_cons (pv 0) (pa_cons (pv 1) pa_nil)))) pa_nil)) rfl)
      (pss_cons (ps_if (pt_cmpR op_eq (pv 2) pe_int (nomark _))
        (pss_one (ps_ret (pe_tup (pa_cons (pv 3) (pa_cons pe_int pa_nil)))))
        pss_nil)
      (pss_cons (ps_if (pt_cmpR op_eq (pv 2) pe_int (nomark _))
        (pss_one (ps_ret (pe_tup (pa_cons pe_int (pa_cons (pv 4) pa_nil)))))
        pss_nil)
      (pss_cons (ps_if (pt_cmpR op_eq (pv 2) pe_int (nomark _))
        (pss_one (ps_ret (pe_tup (pa_cons (pv 3) (pa_cons (pv 3) pa_nil)))))
        pss_nil)
      (pss_cons (ps_if (pt_cmpR op_eq (pv 2) pe_int (nomark _))
        (pss_one (ps_ret (pe_tup (pa_cons (pv 3) (pa_cons (pe_op op_add pe_int (pe_G G__law_pull (hr.mono (by decide)) rfl pass0 (pa_cons (pv 0) (pa_cons pe_int pa_nil)))) pa_nil)))))
        pss_nil)
      (pss_cons (ps_if (pt_cmpR op_eq (pv 2) pe_int (nomark _))
        (pss_one (ps_ret (pe_tup (pa_cons (pe_op op_add pe_int (pe_G G__law_pull (hr.mono (by decide)) rfl pass0 (pa_cons (pv 0) (pa_cons pe_int pa_nil)))) (pa_cons (pv 4) pa_nil)))))
        pss_nil)
      (pss_one (ps_ret (pe_tup (pa_cons (pv 3) (pa_cons (pv 4) pa_nil)))))))))))), ?_⟩
    obtain ⟨b, n, rfl, B, hn, hn2, k⟩ := h
    refine ⟨_, rfl, b, _, rfl, B, by decide, by decide, fun r1 H1 _ _ B1 k1 => ?_⟩
    refine ⟨_, rfl, _, rfl, b, _, rfl, B1, by omega, by omega, fun x H2 x0 x1 B2 k2 => ⟨_, _, rfl, rfl, _, rfl, _, rfl, b, _, rfl, B2, by omega, by omega, fun y H3 y0 y1 B3 k3 => ⟨_, _, rfl, rfl, _, _, rfl, ?_⟩⟩⟩
    have kk := k1.trans (k2.trans k3)
    have fin : ∀ (X Y : Int) (H' : Hp), 0 ≤ X → 0 ≤ Y → X + Y ≠ 0 → X ≤ n + 3 → Y ≤ n + 3 → Bag H' b → Kp b H H' → ∀ p, H' p = none → Q (.ref p) (upd H' p (.tup [.int X, .int Y])) := fun X Y H' h1 h2 h3 h4 h5 B' k' p hp => by
      refine k _ X.toNat Y.toNat _ ⟨p, rfl, SqT.of ?_⟩ (by omega) (by omega) (by omega) (B'.keep (same_new hp)) (k'.new hp)
      rw [upd_same, show ((X.toNat : Nat) : Int) = X by omega, show ((Y.toNat : Nat) : Int) = Y by omega]
    have s2 : 2 ≤ sizeLine := by decide
    refine ⟨_, rfl, rfl, _, rfl, ?_⟩
    refine ite2 (fun _ => ⟨_, rfl, s2, fin _ _ H3 (by omega) (by omega) (by omega) (by omega) (by omega) B3 kk⟩) (fun _ => ?_)
    refine ⟨_, rfl, rfl, _, rfl, ?_⟩
    refine ite2 (fun _ => ⟨_, rfl, s2, fin _ _ H3 (by omega) (by omega) (by omega) (by omega) (by omega) B3 kk⟩) (fun _ => ?_)
    refine ⟨_, rfl, rfl, _, rfl, ?_⟩
    refine ite2 (fun _ => ⟨_, rfl, _, rfl, s2, fin _ _ H3 (by omega) (by omega) (by omega) (by omega) (by omega) B3 kk⟩) (fun _ => ?_)
    refine ⟨_, rfl, rfl, _, rfl, ?_⟩
    refine ite2 (fun _ => ⟨_, rfl, _, rfl, b, _, rfl, B3, by decide, by decide, fun z H4 z0 z1 B4 k4 => ⟨_, _, rfl, rfl, s2, fin _ _ H4 (by omega) (by omega) (by omega) (by omega) (by omega) B4 (kk.trans k4)⟩⟩) (fun _ => ?_)
    refine ⟨_, rfl, rfl, _, rfl, ?_⟩
    refine ite2 (fun _ => ⟨_, rfl, b, _, rfl, B3, by decide, by decide, fun z H4 z0 z1 B4 k4 => ⟨_, _, rfl, rfl, _, rfl, s2, fin _ _ H4 (by omega) (by omega) (by omega) (by omega) (by omega) B4 (kk.trans k4)⟩⟩) (fun _ => ?_)
    exact ⟨_, rfl, _, rfl, s2, fin _ _ H3 (by omega) (by omega) (by omega) (by omega) (by omega) B3 kk⟩

/-! ### _law_bag -/
/-- a new bag -/
def sp__law_bag (K : PySem.W.Frag) : Sp := fun vs H Q _ => ∃ (a : Addr) (ns : List Int), vs = [.ref a] ∧ SqL K H a (ns.map V.int) ∧ ns.length ≤ 63 ∧ ∀ (b : Addr) (H' : Hp), H b = none → Bag H' b → Same H H' → Q (.ref b) H'

theorem sc__law_bag : FnScope ["script", "salt", "cell"] ["script"] (defScope s__law_bag) := ⟨rfl, rfl, rfl, by decide +kernel, rfl, by decide +kernel, by decide +kernel⟩
theorem ok__law_bag (E : En K mg) : Good P w K mg base CX0 1 "_law_bag" ["script"] (sp__law_bag K) := by
  obtain ⟨fd, F⟩ := E.says.def_ 17 (d := d__law_bag) rfl
  refine ⟨fd, ?_, F.bindsN fun _ _ _ _ _ _ us hl => match us, hl with | [_], _ => rfl, F.kp, E.gl "_law_bag"⟩
  refine F.ok sc__law_bag (fun vs H Q E' h => ?_) (fun cdv A outer s H vs Q E' hr h => ?_)
  · obtain ⟨a, ns, rfl, _⟩ := h; rfl
  · have hu64 := hu64_of hr
    refine ⟨_, PSs.nox (pss_cons (ps_set (i := 1) sc__law_bag.nd rfl (by first | exact Or.inl rfl | exact Or.inr rfl) pe_int)
      (pss_cons (ps_for PassesOwn.never rfl (pi_list (pe_slice sl_list (pv 0) po_none (po_some pe_int))) (pg_name (i := 2) sc__law_bag.nd rfl (by first | exact Or.inl rfl | exact Or.inr rfl))
        (pss_one (ps_set (i := 1) sc__law_bag.nd rfl (by first | exact Or.inl rfl | exact Or.inr rfl) (pe_op op_mod (pe_callTy call_int1 (by rfl) (E.fr "int") (by decide +kernel) (pa_cons (pe_op op_add (pe_op op_add (pe_op op_mul (pv 1) pe_int) (pe_op op_mod (pe_callTy call_int1 (by rfl) (E.fr "int") (by decide +kernel) (pa_cons (pv 2) pa_nil)) pe_int)) pe_int) pa_nil)) pe_int))))
      (pss_one (ps_ret (pe_lst (pa_cons (pe_callTy call_list_of (by rfl) (E.fr "list") (by decide +kernel) (pa_cons (pe_slice sl_list (pv 0) po_none (po_some pe_int)) pa_nil)) (pa_cons pe_int (pa_cons pe_int (pa_cons (pv 1) pa_nil))))))))), ?_⟩
    obtain ⟨a, ns, rfl, hS, hl, k⟩ := h
    have hl' : (ns.map V.int).length ≤ 63 := by rw [List.length_map]; exact hl
    refine ⟨_, rfl, 63, rfl, a, _, rfl, hS, fun p hp => ?_⟩
    rw [cut63 hl']
    refine ⟨p, rfl, ⟨_, SqL.of upd_same⟩, for_list (K := K) (a := p) (xs := ns.map V.int) (fun i σ H' => ∃ (s : Int) (v : Option V), σ = [some (.ref a), some (.int s), v] ∧ 0 ≤ s ∧ s < 2147483647 ∧ Same (upd H p (.lst (ns.map V.int))) H')
      ⟨3828, none, rfl, by decide, by decide, Same.refl _⟩ (fun i σ H' _ ⟨_, _, _, _, _, e⟩ => SqL.of (e _ _ upd_same)) ?_ ?_⟩
    · rintro i x σ H' hx ⟨s, v, rfl, h0, h1, e⟩
      obtain ⟨z, rfl⟩ : ∃ z, x = V.int z := by
        rw [List.getElem?_map] at hx
        cases q : ns[i]? with
        | none => rw [q] at hx; cases hx
        | some z => rw [q] at hx; exact ⟨z, (Option.some.inj hx).symm⟩
      refine ⟨_, rfl, _, _, rfl, rfl, .inr ⟨by decide, by decide⟩, _, rfl, .inl ⟨_, rfl, _, _, rfl, rfl, (by show (0 : Int) < _; decide), _, _, rfl, rfl, _, _, rfl, rfl, .inl ⟨_, rfl, _, _, rfl, rfl, (by show (0 : Int) < _; decide), ?_⟩⟩⟩
      have q := emod_bd (s * 45053 + z % 2147483563 + 23) (m := 2147483647) (by decide)
      exact ⟨_, some (.int z), rfl, q.1, q.2, e⟩
    · rintro σ H' ⟨s, v, rfl, h0, h1, e⟩
      have e1 : Same H H' := fun b o q => e b o (by rw [upd_ne (ne_of_none q hp)]; exact q)
      refine ⟨_, rfl, 63, rfl, a, _, rfl, e1.seq hS, fun p2 hp2 => ?_⟩
      rw [cut63 hl']
      refine ⟨p2, _, rfl, .inl (SqL.of upd_same), fun p3 hp3 => ?_⟩
      refine ⟨_, rfl, (by show 4 ≤ sizeLine; decide), fun b hb => ?_⟩
      have n32 : p3 ≠ p2 := fun z => by rw [z, upd_same] at hp3; cases hp3
      have nb3 : b ≠ p3 := fun z => by rw [z, upd_same] at hb; cases hb
      have hp3' : H' p3 = none := by rw [upd_ne n32] at hp3; exact hp3
      have hb2 : (upd H' p2 (.lst (ns.map V.int))) b = none := by rw [upd_ne nb3] at hb; exact hb
      have e2 : Same H' (upd (upd (upd H' p2 (.lst (ns.map V.int))) p3 (.lst (ns.map V.int))) b (.lst [.ref p3, .int 0, .int 0, .int s])) :=
        (same_new hp2).trans ((same_new hp3).trans (same_new hb))
      refine k b _ ?_ ⟨p3, ns, 0, 0, s, upd_same, ?_, nb3, hl, by decide, by decide, h0, h1⟩ (e1.trans e2)
      · have z : H' b = none := Same.free (same_new hp2) hb2
        exact Same.free e1 z
      · rw [upd_ne nb3.symm, upd_same]

/-! ### law -/
def sp_law (K : PySem.W.Frag) : Sp := fun vs H Q _ => ∃ (a : Addr) (ns : List Int), vs = [.ref a] ∧ SqL K H a (ns.map V.int) ∧ ns.length ≤ 63 ∧ ∀ H', Q (.bl true) H'
theorem sp_law_holds {K : PySem.W.Frag} (H : Hp) (a : Addr) (ns : List Int) (hl : ns.length ≤ 63) (hS : SqL K H a (ns.map V.int)) : sp_law K [.ref a] H (fun v _ => v = .bl true) fun _ _ _ => False := ⟨a, ns, rfl, hS, hl, fun _ => rfl⟩
def mvL (m : Mv) : PyData := .list [.str (if m.1 then "add" else "take"), .str (if m.2.1 then "x" else "y"), .int (m.2.2 : Int)]
theorem wayM_10_4 : wayM 10 4 0 2 = [(false, true, 2), (false, false, 1), (false, true, 1)] := by
  have r1 : R 10 4 = [(true, 2), (false, 1)] := by
    rw [R_x (x := 10) (y := 4) (by decide) (by decide), R_y (x := 10 - (10 - 1) / 4 * 4) (y := 4) (by decide) (by decide), R_nil (by decide)]
  have r2 : R 0 2 = [] := R_nil (by decide)
  unfold wayM wayRaw wayL
  rw [r1, r2]
  decide +kernel
/-- data that stands whatever D holds -/
def DpO (K : PySem.W.Frag) (H : Hp) (D : Addr) (vs : List V) (ds : List PyData) : Prop := ∀ o, DpAll K (upd H D o) vs ds
theorem same_under {H : Hp} {D l : Addr} {o o' : HO} (hl : H l = none) (ne : D ≠ l) : Same (upd H D o) (upd (upd H l o') D o) := fun a u q => by
  by_cases h : a = D
  · subst h
    rw [upd_same] at q ⊢
    exact q
  · rw [upd_ne h] at q
    rw [upd_ne h, upd_ne (ne_of_none q hl)]
    exact q
theorem DpO.push {K : PySem.W.Frag} {H : Hp} {D l : Addr} {vs : List V} {ds : List PyData} {o y : HO} {d : PyData} (h : DpO K H D vs ds) (hl : H l = none) (ne : D ≠ l) (hd : ∀ x, Dp K (upd (upd H l o) D x) (.ref l) d) : DpO K (upd (upd H l o) D y) D (vs ++ [.ref l]) (ds ++ [d]) := fun x => by
  rw [upd_upd]
  exact DpAll.append (Dp.sameAll (same_under hl ne) (h x)) (DpAll.one (hd x))
theorem DpO.at_ {K : PySem.W.Frag} {H : Hp} {D : Addr} {vs : List V} {ds : List PyData} {o : HO} (h : DpO K H D vs ds) (hD : H D = some o) : DpAll K H vs ds := by
  have e : upd H D o = H := by
    funext a
    by_cases q : a = D
    · rw [q, upd_same, hD]
    · rw [upd_ne q]
  exact e ▸ h o
theorem mvL_depth (m : Mv) : (mvL m).depth ≤ 1 := Nat.le_refl _
theorem mvL_small (m : Mv) : smallD (mvL m) = true := by
  unfold mvL
  rw [smallD]
  rfl
theorem mvD_small (m : Mv) : smallD (mvD m) = true := by
  unfold mvD
  rw [smallD]
  rfl
theorem eqv_pair (u w : Nat) : PyData.eqv (.tuple [.int (u : Int), .int (w : Int)]) (.tuple [.int (u : Int), .int (w : Int)]) = true := by
  show (((u : Int) == (u : Int)) && (((w : Int) == (w : Int)) && true)) = true
  rw [beq_self_eq_true, beq_self_eq_true]
  rfl
theorem shaped_pair (u w : Nat) : SeqAt.shaped (.tuple [.int (u : Int), .int (w : Int)]) = true := rfl
theorem fst_leads {B : Nat} {p q : Nat × Nat} {ms : List Mv} (h : leads B p ms = some q) : ∀ m ∈ ms, True := fun _ _ => trivial
/-- the middle of a turn -/
def k5mid (K : PySem.W.Frag) (s1 s2 s3 : Option V) (b : Addr) (t : Bool) : L2.St → Hp → Prop := fun σ H' => ∃ (s6 s7 s8 s9 s10 s11 s12 : Option V) (v1 v2 : V) (x y u w : Nat), σ = [s1, s2, s3, some v1, some v2, s6, s7, s8, s9, s10, s11, s12] ∧ PairAt K H' v1 x y ∧ PairAt K H' v2 u w ∧ okP x y ∧ okP u w ∧ Bag H' b

theorem sc_law : FnScope ["script", "bag", "turn", "a", "b", "size", "other_size", "told", "move", "m", "moves", "n"] ["script"] (defScope s_law) := ⟨rfl, rfl, rfl, by decide +kernel, rfl, by decide +kernel, by decide +kernel⟩
theorem ok_law {fd : FuncData} (F : FunD K "law" "law" (defArgs s_law) (defBody s_law) (defScope s_law) [] [] (He.ga K "law") fd) (E : En K mg) (G_way : GoodD P w K mg base CX0 5 d_way "way" ["one", "other"] (sp_way K)) (G__law_same : Good P w K mg base CX0 12 "_law_same" ["found", "due"] (sp__law_same K)) (G__law_led : Good P w K mg base CX0 1 "_law_led" ["one_z", "moves"] (sp__law_led K)) (G__law_gcd : Good P w K mg base CX0 1 "_law_gcd" ["x", "y"] (sp__law_gcd K)) (G__law_pull : Good P w K mg base CX0 1 "_law_pull" ["bag", "amount"] (sp__law_pull K)) (G__law_of : Good P w K mg base CX0 2 "_law_of" ["bag", "things"] (sp__law_of K)) (G__law_far_pair : Good P w K mg base CX0 3 "_law_far_pair" ["bag"] (sp__law_far_pair K)) (G__law_pair : Good P w K mg base CX0 2 "_law_pair" ["bag", "top_z"] (sp__law_pair K)) (G__law_bag : Good P w K mg base CX0 1 "_law_bag" ["script"] (sp__law_bag K)) : FnOk P w K mg base CX0 13 (He.ga K "law") fd ["script"] (sp_law K) := by
  refine F.ok sc_law (fun vs H Q E' h => ?_) (fun cdv A outer s H vs Q E' hr h => ?_)
  · obtain ⟨a, ns, rfl, _⟩ := h; rfl
  · have hu64 := hu64_of hr
    refine ⟨_, PSs.nox (pss_cons (ps_set (i := 1) sc_law.nd rfl (by first | exact Or.inl rfl | exact Or.inr rfl) (pe_G G__law_bag (hr.mono (by decide)) rfl pass0 (pa_cons (pv 0) pa_nil)))
      (pss_cons (ps_for PassesOwn.never rfl (pi_range1 rfl (E.fr "range") (pa_cons pe_int pa_nil)) (pg_name (i := 2) sc_law.nd rfl (by first | exact Or.inl rfl | exact Or.inr rfl))
        (pss_cons (ps_par (i := 3) (j := 4) rfl sc_law.nd rfl rfl (by decide) rfl rfl (pa_cons (pe_G G__law_pair (hr.mono (by decide)) rfl pass0 (pa_cons (pv 1) (pa_cons pe_int pa_nil))) (pa_cons (pe_G G__law_pair (hr.mono (by decide)) rfl pass0 (pa_cons (pv 1) (pa_cons pe_int pa_nil))) pa_nil)) rfl)
      (C8.pss_cut (ps_if (pt_cmpR op_gt (pe_G G__law_pull (hr.mono (by decide)) rfl pass0 (pa_cons (pv 1) (pa_cons pe_int pa_nil))) pe_int (nomark _))
        (pss_cons (ps_par (i := 5) (j := 6) rfl sc_law.nd rfl rfl (by decide) rfl rfl (pa_cons (pe_G G__law_gcd (hr.mono (by decide)) rfl pass0 (pa_cons (pe_ix ix_tup (pv 3) pe_int (fun _ _ => rfl)) (pa_cons (pe_ix ix_tup (pv 3) pe_int (fun _ _ => rfl)) pa_nil))) (pa_cons (pe_G G__law_gcd (hr.mono (by decide)) rfl pass0 (pa_cons (pe_ix ix_tup (pv 4) pe_int (fun _ _ => rfl)) (pa_cons (pe_ix ix_tup (pv 4) pe_int (fun _ _ => rfl)) pa_nil))) pa_nil)) rfl)
      (pss_one (ps_par (i := 3) (j := 4) rfl sc_law.nd rfl rfl (by decide) rfl rfl (pa_cons (pe_tup (pa_cons (pe_op op_mul (pe_ix ix_tup (pv 3) pe_int (fun _ _ => rfl)) (pv 6)) (pa_cons (pe_op op_mul (pe_ix ix_tup (pv 3) pe_int (fun _ _ => rfl)) (pv 6)) pa_nil))) (pa_cons (pe_tup (pa_cons (pe_op op_mul (pe_ix ix_tup (pv 4) pe_int (fun _ _ => rfl)) (pv 5)) (pa_cons (pe_op op_mul (pe_ix ix_tup (pv 4) pe_int (fun _ _ => rfl)) (pv 5)) pa_nil))) pa_nil)) rfl)))
        pss_nil)
      (C8.pss_cut (ps_if (pt_cmpR op_eq (pe_G G__law_pull (hr.mono (by decide)) rfl pass0 (pa_cons (pv 1) (pa_cons pe_int pa_nil))) pe_int (nomark _))
        (pss_cons (ps_set (i := 3) sc_law.nd rfl (by first | exact Or.inl rfl | exact Or.inr rfl) (pe_G G__law_far_pair (hr.mono (by decide)) rfl pass0 (pa_cons (pv 1) pa_nil)))
      (pss_cons (ps_set (i := 5) sc_law.nd rfl (by first | exact Or.inl rfl | exact Or.inr rfl) (pe_G G__law_gcd (hr.mono (by decide)) rfl pass0 (pa_cons (pe_ix ix_tup (pv 3) pe_int (fun _ _ => rfl)) (pa_cons (pe_ix ix_tup (pv 3) pe_int (fun _ _ => rfl)) pa_nil))))
      (pss_one (ps_set (i := 4) sc_law.nd rfl (by first | exact Or.inl rfl | exact Or.inr rfl) (pe_G G__law_of (hr.mono (by decide)) rfl pass0 (pa_cons (pv 1) (pa_cons (pe_lst (pa_cons (pv 3) (pa_cons (pe_tup (pa_cons (pv 5) (pa_cons (pv 5) pa_nil))) (pa_cons (pe_tup (pa_cons pe_int (pa_cons (pv 5) pa_nil))) (pa_cons (pe_tup (pa_cons (pv 5) (pa_cons pe_int pa_nil))) (pa_cons (pe_tup (pa_cons (pe_ix ix_tup (pv 3) pe_int (fun _ _ => rfl)) (pa_cons (pe_ix ix_tup (pv 3) pe_int (fun _ _ => rfl)) pa_nil))) (pa_cons (pe_tup (pa_cons (pe_op op_add (pe_ix ix_tup (pv 3) pe_int (fun _ _ => rfl)) (pe_ix ix_tup (pv 3) pe_int (fun _ _ => rfl))) (pa_cons (pe_ix ix_tup (pv 3) pe_int (fun _ _ => rfl)) pa_nil))) pa_nil))))))) pa_nil)))))))
        pss_nil)
      (pss_cons (ps_set (i := 7) sc_law.nd rfl (by first | exact Or.inl rfl | exact Or.inr rfl) (pe_G (GoodD.good G_way) (hr.mono (by decide)) rfl pass0 (pa_cons (pv 3) (pa_cons (pv 4) pa_nil))))
      (pss_cons (ps_if (pt_cmpR op_ne (pe_cmpR op_isN (pv 7) pe_non (nomark _)) (pe_cmpR op_ne (pe_G G__law_gcd (hr.mono (by decide)) rfl pass0 (pa_cons (pe_ix ix_tup (pv 3) pe_int (fun _ _ => rfl)) (pa_cons (pe_ix ix_tup (pv 3) pe_int (fun _ _ => rfl)) pa_nil))) (pe_G G__law_gcd (hr.mono (by decide)) rfl pass0 (pa_cons (pe_ix ix_tup (pv 4) pe_int (fun _ _ => rfl)) (pa_cons (pe_ix ix_tup (pv 4) pe_int (fun _ _ => rfl)) pa_nil))) (nomark _)) (nomark _))
        (pss_one (ps_ret pe_bl))
        pss_nil)
      (pss_one (ps_if (pt_cmpR op_notN (pv 7) pe_non (nomark _))
        (pss_cons (ps_if (PW.pt (pw_or (pt_cmpR (op_neD hu64) (pe_G G__law_led (hr.mono (by decide)) rfl pass0 (pa_cons (pv 3) (pa_cons (pv 7) pa_nil))) (pv 4) (nomark _)) (pw_or1 (pt_not (pt_val (pe_G G__law_same (hr.mono (by decide)) rfl pass0 (pa_cons (pe_lc (own := [("move", 8)]) (by rfl) sc_law.nd (pi_list (pv 7)) (blkOk_by (N := ["script", "bag", "turn", "a", "b", "size", "other_size", "told", "move", "m", "moves", "n"]) (sc := defScope s_law) (by decide +kernel)) (by exact fun _ _ _ _ _ => (pg_name (i := 8) sc_law.nd rfl (by first | exact Or.inl rfl | exact Or.inr rfl))) (by exact fun _ _ _ _ _ => pts_nil) (by exact fun _ _ _ _ _ => (pe_callTy (show CallR _ _ (rLof K) from call_list_of) (by rfl) (E.fr "list") (by decide +kernel) (pa_cons (pv 8) pa_nil)))) (pa_cons (pe_lc (own := [("m", 9)]) (by rfl) sc_law.nd (pi_list (pv 7)) (blkOk_by (N := ["script", "bag", "turn", "a", "b", "size", "other_size", "told", "move", "m", "moves", "n"]) (sc := defScope s_law) (by decide +kernel)) (by exact fun _ _ _ _ _ => (pg_name (i := 9) sc_law.nd rfl (by first | exact Or.inl rfl | exact Or.inr rfl))) (by exact fun _ _ _ _ _ => pts_nil) (by exact fun _ _ _ _ _ => (pe_lst (pa_cons (pe_callTy SkE.call_str_str (by rfl) (E.fr "str") (by decide +kernel) (pa_cons (pe_ix (show IxR _ (rIxT K) from ix_tup) (pv 9) pe_int (fun _ _ => rfl)) pa_nil)) (pa_cons (pe_callTy SkE.call_str_str (by rfl) (E.fr "str") (by decide +kernel) (pa_cons (pe_ix (show IxR _ (rIxT K) from ix_tup) (pv 9) pe_int (fun _ _ => rfl)) pa_nil)) (pa_cons (pe_callTy call_int1 (by rfl) (E.fr "int") (by decide +kernel) (pa_cons (pe_ix (show IxR _ (rIxT K) from ix_tup) (pv 9) pe_int (fun _ _ => rfl)) pa_nil)) pa_nil)))))) pa_nil))))))))
        (pss_one (ps_ret pe_bl))
        pss_nil)
      (pss_cons (ps_set (i := 10) sc_law.nd rfl (by first | exact Or.inl rfl | exact Or.inr rfl) (pe_callTy call_list_of (by rfl) (E.fr "list") (by decide +kernel) (pa_cons (pv 7) pa_nil)))
      (pss_cons (ps_expr (pe_bm PySem.F.plainAttrs_list PySem.F.slot_list_append PySem.F.type_list_append mt_append (pv 7) (pa_cons pe_non pa_nil)))
      (pss_cons (ps_if (pt_not (pt_val (pe_G G__law_same (hr.mono (by decide)) rfl pass0 (pa_cons (pe_G (GoodD.good G_way) (hr.mono (by decide)) rfl pass0 (pa_cons (pv 3) (pa_cons (pv 4) pa_nil))) (pa_cons (pv 10) pa_nil)))))
        (pss_one (ps_ret pe_bl))
        pss_nil)
      (pss_one (ps_if (PW.pt (pw_or (pt_val (pe_callB (cr_any rfl) (by rfl) (E.fr "any") (by decide +kernel) (pa_cons (pe_lc (own := [("m", 9), ("n", 11)]) (by rfl) sc_law.nd (RZ.pi_zipA (by rfl) (E.fr "zip") (pa_cons (pv 10) (pa_cons (pe_slice sl_list (pv 10) (po_some pe_int) po_none) pa_nil))) (blkOk_by (N := ["script", "bag", "turn", "a", "b", "size", "other_size", "told", "move", "m", "moves", "n"]) (sc := defScope s_law) (by decide +kernel)) (by exact fun _ _ _ _ _ => (show PG _ _ (gTup K 2 _) from pg_tup (n := 2) rfl (pgs_cons (pg_name (i := 9) sc_law.nd rfl (by first | exact Or.inl rfl | exact Or.inr rfl)) (pgs_cons (pg_name (i := 11) sc_law.nd rfl (by first | exact Or.inl rfl | exact Or.inr rfl)) pgs_nil)))) (by exact fun _ _ _ _ _ => pts_nil) (by exact fun _ _ _ _ _ => (pe_cmpR (show OpR _ _ (rEqD K) from op_eqD hu64) (pe_slice (show SlR _ (rSlT K) from sl_tup) (pv 9) po_none (po_some pe_int)) (pe_slice (show SlR _ (rSlT K) from sl_tup) (pv 11) po_none (po_some pe_int)) (nomark _)))) pa_nil))) (pw_or1 (pt_not (pt_val (pe_G G__law_same (hr.mono (by decide)) rfl pass0 (pa_cons (pe_GK0 G_way (hr.mono (by decide)) rfl pass0 (fun F s us hl => match us, hl with | [_, _], _ => F.bindsW (fun _ _ _ _ _ _ => rfl) s) (pk_cons (pv 4) (pk_cons (pv 4) pk_nil))) (pa_cons (pe_lst pa_nil) pa_nil))))))))
        (pss_one (ps_ret pe_bl))
        pss_nil))))))
        pss_nil))))))))
      (pss_one (ps_ret (pe_and (pe_cmpR (op_eqD hu64) (pe_G (GoodD.good G_way) (hr.mono (by decide)) rfl pass0 (pa_cons (pe_tup (pa_cons pe_int (pa_cons pe_int pa_nil))) (pa_cons (pe_tup (pa_cons pe_int (pa_cons pe_int pa_nil))) pa_nil))) (pe_lst (pa_cons (pe_tup (pa_cons pe_str (pa_cons pe_str (pa_cons pe_int pa_nil)))) (pa_cons (pe_tup (pa_cons pe_str (pa_cons pe_str (pa_cons pe_int pa_nil)))) (pa_cons (pe_tup (pa_cons pe_str (pa_cons pe_str (pa_cons pe_int pa_nil)))) pa_nil)))) (nomark _)) (pe_one (pe_cmpR op_isN (pe_G (GoodD.good G_way) (hr.mono (by decide)) rfl pass0 (pa_cons (pe_tup (pa_cons pe_int (pa_cons pe_int pa_nil))) (pa_cons (pe_tup (pa_cons pe_int (pa_cons pe_int pa_nil))) pa_nil))) pe_non (nomark _)))))))), ?_⟩
    obtain ⟨a, ns, rfl, hS, hl, k⟩ := h
    refine ⟨_, rfl, a, ns, rfl, hS, hl, fun b H1 hb B e1 => ?_⟩
    have s2 : 2 ≤ sizeLine := by decide
    have s3 : 3 ≤ sizeLine := by decide
    have s6 : 6 ≤ sizeLine := by decide
    refine ⟨12, rfl, by decide, by decide, for_range (lo := 0) (n := 12) (fun _ σ H' => ∃ s2 s3 s4 s5 s6 s7 s8 s9 s10 s11 : Option V, σ = [some (.ref a), some (.ref b), s2, s3, s4, s5, s6, s7, s8, s9, s10, s11] ∧ Bag H' b) ⟨_, _, _, _, _, _, _, _, _, _, rfl, B⟩ ?_ ?_⟩
    · rintro i σ H2 _ ⟨_, _, _, _, _, _, _, _, _, _, rfl, B2⟩
      -- a, b = (_law_pair(bag, 40), _law_pair(bag, 40))
      refine ⟨_, rfl, b, 40, rfl, B2, by decide, by decide, fun v1 x y H3 h1 n1 hx hy B3 k3 => ?_⟩
      refine ⟨_, rfl, b, 40, rfl, B3, by decide, by decide, fun v2 u w H4 h2 n2 hu hw B4 k4 => ⟨_, _, rfl, ?_⟩⟩
      have h14 := h1.sameT (B3.sameT k4)
      refine ⟨k5mid K (some (.ref a)) (some (.ref b)) (some (.int (0 + (i : Int)))) b true, ?_, ?_⟩
      · -- if _law_pull(bag, 3) > 0
        refine ⟨_, rfl, b, _, rfl, B4, by decide, by decide, fun r1 H5 _ _ B5 k5 => ⟨_, _, rfl, rfl, _, rfl, ?_⟩⟩
        have h15 := h14.sameT (B4.sameT k5)
        have h25 := h2.sameT (B4.sameT k5)
        refine ite2 (fun _ => ?_) (fun _ => ⟨_, _, _, _, _, _, _, v1, v2, x, y, u, w, rfl, h15, h25, okP_small n1 (by omega) (by omega), okP_small n2 (by omega) (by omega), B5⟩)
        obtain ⟨p1, rfl, hp1⟩ := h15
        obtain ⟨p2, rfl, hp2⟩ := h25
        refine ⟨_, rfl, p1, _, _, _, rfl, rfl, hp1, at2_0 _ _, _, rfl, p1, _, _, _, rfl, rfl, hp1, at2_1 _ _, x, y, rfl, ?_⟩
        refine ⟨_, rfl, p2, _, _, _, rfl, rfl, hp2, at2_0 _ _, _, rfl, p2, _, _, _, rfl, rfl, hp2, at2_1 _ _, u, w, rfl, _, _, rfl, ?_⟩
        have g1 : Nat.gcd x y ≤ 43 := by
          rcases Nat.eq_zero_or_pos x with z | z
          · rw [z, Nat.gcd_zero_left]; omega
          · exact Nat.le_trans (Nat.gcd_le_left _ z) (by omega)
        have g2 : Nat.gcd u w ≤ 43 := by
          rcases Nat.eq_zero_or_pos u with z | z
          · rw [z, Nat.gcd_zero_left]; omega
          · exact Nat.le_trans (Nat.gcd_le_left _ z) (by omega)
        have g1p : 0 < Nat.gcd x y := Nat.pos_of_ne_zero fun z => n1 (Nat.gcd_eq_zero_iff.mp z)
        have g2p : 0 < Nat.gcd u w := Nat.pos_of_ne_zero fun z => n2 (Nat.gcd_eq_zero_iff.mp z)
        refine ⟨_, rfl, p1, _, _, _, rfl, rfl, hp1, at2_0 _ _, _, rfl, _, _, rfl, rfl, .inl ⟨by omega, by omega⟩, ?_⟩
        refine ⟨_, rfl, p1, _, _, _, rfl, rfl, hp1, at2_1 _ _, _, rfl, _, _, rfl, rfl, .inl ⟨by omega, by omega⟩, s2, fun q1 hq1 => ?_⟩
        have hp2' := seqT (same_new (o := .tup [.int ((x : Int) * (Nat.gcd u w : Int)), .int ((y : Int) * (Nat.gcd u w : Int))]) hq1) hp2
        refine ⟨_, rfl, p2, _, _, _, rfl, rfl, hp2', at2_0 _ _, _, rfl, _, _, rfl, rfl, .inl ⟨by omega, by omega⟩, ?_⟩
        refine ⟨_, rfl, p2, _, _, _, rfl, rfl, hp2', at2_1 _ _, _, rfl, _, _, rfl, rfl, .inl ⟨by omega, by omega⟩, s2, fun q2 hq2 => ⟨_, _, rfl, ?_⟩⟩
        have bd : ∀ {x g : Nat}, x ≤ 43 → g ≤ 43 → x * g ≤ 1000000 := fun h1 h2 => Nat.le_trans (Nat.mul_le_mul h1 h2) (by decide)
        have nz : ∀ {x y g : Nat}, ¬ (x = 0 ∧ y = 0) → 0 < g → ¬ (x * g = 0 ∧ y * g = 0) := fun h hg z => by
          rcases Nat.mul_eq_zero.mp z.1 with z1 | z1
          · rcases Nat.mul_eq_zero.mp z.2 with z2 | z2
            · exact h ⟨z1, z2⟩
            · omega
          · omega
        refine ⟨_, _, _, _, _, _, _, .ref q1, .ref q2, x * Nat.gcd u w, y * Nat.gcd u w, u * Nat.gcd x y, w * Nat.gcd x y, rfl, ⟨q1, rfl, ?_⟩, ⟨q2, rfl, ?_⟩, okP_small (nz n1 g2p) (bd (by omega) g2) (bd (by omega) g2), okP_small (nz n2 g1p) (bd (by omega) g1) (bd (by omega) g1), (B5.keep (same_new hq1)).keep (same_new hq2)⟩
        · rw [Int.natCast_mul, Int.natCast_mul]
          exact seqT (same_new hq2) (SqT.of upd_same)
        · rw [Int.natCast_mul, Int.natCast_mul]
          exact SqT.of upd_same
      rintro σ H5 ⟨_, _, _, _, _, _, _, v1, v2, x, y, u, w, rfl, h1, h2, ok1, ok2, B5⟩
      refine ⟨k5mid K (some (.ref a)) (some (.ref b)) (some (.int (0 + (i : Int)))) b true, ?_, ?_⟩
      · -- if _law_pull(bag, 4) == 0
        refine ⟨_, rfl, b, _, rfl, B5, by decide, by decide, fun r1 H6 _ _ B6 k6 => ⟨rfl, _, rfl, ?_⟩⟩
        have h16 := h1.sameT (B5.sameT k6)
        have h26 := h2.sameT (B5.sameT k6)
        refine ite2 (fun _ => ?_) (fun _ => ⟨_, _, _, _, _, _, _, v1, v2, x, y, u, w, rfl, h16, h26, ok1, ok2, B6⟩)
        refine ⟨_, rfl, b, rfl, B6, fun va c d H7 hA okA bA B7 k7 => ?_⟩
        obtain ⟨pa, rfl, hpa⟩ := hA
        refine ⟨_, rfl, pa, _, _, _, rfl, rfl, hpa, at2_0 _ _, _, rfl, pa, _, _, _, rfl, rfl, hpa, at2_1 _ _, c, d, rfl, ?_⟩
        -- b = _law_of(bag, [..])
        refine ⟨_, rfl, _, rfl, _, rfl, _, rfl, s2, fun t1 ht1 => ?_⟩
        have hpa1 := seqT (same_new (o := .tup [.int ((Nat.gcd c d : Nat) : Int), .int ((Nat.gcd c d : Nat) : Int)]) ht1) hpa
        refine ⟨_, rfl, s2, fun t2 ht2 => ⟨_, rfl, s2, fun t3 ht3 => ?_⟩⟩
        have e3 := (same_new (o := .tup [.int 0, .int ((Nat.gcd c d : Nat) : Int)]) ht2).trans (same_new (o := .tup [.int ((Nat.gcd c d : Nat) : Int), .int 0]) ht3)
        have hpa3 := seqT e3 hpa1
        refine ⟨_, rfl, pa, _, _, _, rfl, rfl, hpa3, at2_1 _ _, _, rfl, pa, _, _, _, rfl, rfl, hpa3, at2_0 _ _, s2, fun t4 ht4 => ?_⟩
        have hpa4 := seqT (same_new (o := .tup [.int (d : Int), .int (c : Int)]) ht4) hpa3
        refine ⟨_, rfl, pa, _, _, _, rfl, rfl, hpa4, at2_0 _ _, _, rfl, pa, _, _, _, rfl, rfl, hpa4, at2_1 _ _, _, _, rfl, rfl, _, rfl, pa, _, _, _, rfl, rfl, hpa4, at2_1 _ _, s2, fun t5 ht5 => ⟨s6, fun l hl2 => ?_⟩⟩
        have el := same_new (o := .lst [.ref pa, .ref t1, .ref t2, .ref t3, .ref t4, .ref t5]) hl2
        have e5 := (same_new (o := .tup [.int ((c : Int) + (d : Int)), .int (d : Int)]) ht5).trans el
        have e4 := (same_new (o := .tup [.int (d : Int), .int (c : Int)]) ht4).trans e5
        have e3b := (same_new (o := .tup [.int ((Nat.gcd c d : Nat) : Int), .int 0]) ht3).trans e4
        have e2 := (same_new (o := .tup [.int 0, .int ((Nat.gcd c d : Nat) : Int)]) ht2).trans e3b
        have e1' := (same_new (o := .tup [.int ((Nat.gcd c d : Nat) : Int), .int ((Nat.gcd c d : Nat) : Int)]) ht1).trans e2
        have B8 := B7.keep e1'
        have hl8 : l ≠ b := fun z => by
          obtain ⟨o, q⟩ := (B7.keep ((same_new (o := .tup [.int ((Nat.gcd c d : Nat) : Int), .int ((Nat.gcd c d : Nat) : Int)]) ht1).trans (e3.trans ((same_new (o := .tup [.int (d : Int), .int (c : Int)]) ht4).trans (same_new (o := .tup [.int ((c : Int) + (d : Int)), .int (d : Int)]) ht5))))).at_
          rw [z] at hl2
          rw [hl2] at q
          cases q
        refine ⟨b, l, _, rfl, B8, hl8, SqL.of upd_same, (by show 0 < 6; decide), (by show 6 ≤ 1000; decide), fun j v H9 hv B9 k9 => ?_⟩
        have st := B8.sameT k9
        have hA9 : PairAt K H9 (.ref pa) c d := ⟨pa, rfl, st.seqT (seqT e1' hpa)⟩
        have gp : 0 < Nat.gcd c d := Nat.pos_of_ne_zero fun z => okA.1 (Nat.gcd_eq_zero_iff.mp z)
        have gb : Nat.gcd c d < 2 ^ 3000 := by
          rcases Nat.eq_zero_or_pos c with z | z
          · rw [z, Nat.gcd_zero_left]; exact bA.2
          · exact Nat.lt_of_le_of_lt (Nat.gcd_le_left _ z) bA.1
        have up : ∀ {z : Nat}, z < 2 ^ 3001 → z < 2 ^ 4000 := fun h => Nat.lt_of_lt_of_le h (Nat.pow_le_pow_right (by decide) (by decide))
        have p31 : 2 ^ 3001 = 2 ^ 3000 + 2 ^ 3000 := by rw [Nat.pow_succ, Nat.mul_two]
        have p0 : 0 < 2 ^ 3000 := Nat.pow_pos (by decide)
        generalize hN : (2 : Nat) ^ 3001 = N at *
        generalize hM : (2 : Nat) ^ 3000 = M at *
        have fin : ∀ {z1 z2 z3 z4 z5 z6 : Option V} (p q : Nat), PairAt K H9 v p q → ¬ (p = 0 ∧ q = 0) → p < N → q < N → k5mid K (some (.ref a)) (some (.ref b)) (some (.int (0 + (i : Int)))) b true [some (.ref a), some (.ref b), some (.int (0 + (i : Int))), some (.ref pa), some v, some (.int ((Nat.gcd c d : Nat) : Int)), z1, z2, z3, z4, z5, z6] H9 := fun p q hv nz hp hq => ⟨_, _, _, _, _, _, _, .ref pa, v, c, d, p, q, rfl, hA9, hv, okA, ⟨nz, up hp, up hq⟩, B9⟩
        match j, hv with
        | 0, hv => cases hv; exact fin c d hA9 okA.1 (by omega) (by omega)
        | 1, hv => cases hv; exact fin (Nat.gcd c d) (Nat.gcd c d) ⟨t1, rfl, st.seqT (seqT e2 (SqT.of upd_same))⟩ (by omega) (by omega) (by omega)
        | 2, hv => cases hv; exact fin 0 (Nat.gcd c d) ⟨t2, rfl, st.seqT (seqT e3b (SqT.of upd_same))⟩ (by omega) (by omega) (by omega)
        | 3, hv => cases hv; exact fin (Nat.gcd c d) 0 ⟨t3, rfl, st.seqT (seqT e4 (SqT.of upd_same))⟩ (by omega) (by omega) (by omega)
        | 4, hv => cases hv; exact fin d c ⟨t4, rfl, st.seqT (seqT e5 (SqT.of upd_same))⟩ (fun z => okA.1 ⟨z.2, z.1⟩) (by omega) (by omega)
        | 5, hv => cases hv; exact fin (c + d) d ⟨t5, rfl, st.seqT (seqT el (SqT.of upd_same))⟩ (fun z => okA.1 ⟨by omega, by omega⟩) (by omega) (by omega)
      rintro σ H6 ⟨_, _, _, _, _, _, _, v1, v2, x, y, u, w, rfl, h1, h2, ok1, ok2, B6⟩
      obtain ⟨p1, rfl, hp1⟩ := h1
      obtain ⟨p2, rfl, hp2⟩ := h2
      -- told = way(a, b)
      refine ⟨_, rfl, _, rfl, .ref p1, .ref p2, x, y, u, w, rfl, ⟨p1, rfl, hp1⟩, ⟨p2, rfl, hp2⟩, ok1, ok2, fun hg H7 e7 => ?_, fun hg f us H7 hf e7 hF hD => ?_⟩
      · -- None
        have q1 := seqT e7 hp1
        have q2 := seqT e7 hp2
        refine ⟨_, rfl, rfl, _, rfl, p1, _, _, _, rfl, rfl, q1, at2_0 _ _, _, rfl, p1, _, _, _, rfl, rfl, q1, at2_1 _ _, x, y, rfl, ?_⟩
        refine ⟨_, rfl, p2, _, _, _, rfl, rfl, q2, at2_0 _ _, _, rfl, p2, _, _, _, rfl, rfl, q2, at2_1 _ _, u, w, rfl, rfl, rfl, _, rfl, ?_⟩
        refine ite_f (by rw [dne (by omega)]; decide +kernel) ?_
        exact ⟨_, rfl, rfl, _, rfl, ite_f (by decide +kernel) ⟨_, _, _, _, _, _, _, _, _, _, rfl, B6.keep e7⟩⟩
      have q1 := seqT e7 hp1
      have q2 := seqT e7 hp2
      refine ⟨_, rfl, rfl, _, rfl, p1, _, _, _, rfl, rfl, q1, at2_0 _ _, _, rfl, p1, _, _, _, rfl, rfl, q1, at2_1 _ _, x, y, rfl, ?_⟩
      refine ⟨_, rfl, p2, _, _, _, rfl, rfl, q2, at2_0 _ _, _, rfl, p2, _, _, _, rfl, rfl, q2, at2_1 _ _, u, w, rfl, rfl, rfl, _, rfl, ?_⟩
      refine ite_f (by rw [deq (by omega)]; rfl) ?_
      refine ⟨_, rfl, rfl, _, rfl, ite_t rfl ?_⟩
      obtain ⟨wc, wl⟩ := wayM_cnt x y u w
      have r1 := R_len' ok1
      have r2 := R_len' ok2
      have hlead := wayM_leads ok1.1 ok2.1 hg ok1.2.1 ok1.2.2 ok2.2.1 ok2.2.2
      have halt : Alt (wayM x y u w) := merge_alt _
      have lus := DpAll.length hD
      rw [List.length_map] at lus
      have cb : mcnt (wayM x y u w) < 2 ^ 4010 := by
        have a1 := ok1.2.1
        have a2 := ok1.2.2
        have a3 := ok2.2.1
        have a4 := ok2.2.2
        have e : (2 : Nat) ^ 4010 = 1024 * 2 ^ 4000 := by rw [show 4010 = 10 + 4000 by decide, Nat.pow_add]
        have p0 : 0 < 2 ^ 4000 := Nat.pow_pos (by decide)
        rw [e]
        generalize (2 : Nat) ^ 4000 = N at *
        omega
      generalize hW : wayM x y u w = W at *
      -- if _law_led(a, told) != b
      refine ⟨_, rfl, _, rfl, .ref p1, f, us, x, y, u, w, W, rfl, ⟨p1, rfl, q1⟩, SqL.of hF, hD, ok1.2.1, ok1.2.2, hlead, cb, fun t H8 e8 ht => ?_⟩
      refine ⟨_, rfl, .tuple [.int (u : Int), .int (w : Int)], .tuple [.int (u : Int), .int (w : Int)], .tup (SqT.of ht) (.cons (.int _) (.cons (.int _) .nil)), .tup (seqT e8 q2) (.cons (.int _) (.cons (.int _) .nil)), shaped_pair u w, shaped_pair u w, _, rfl, ?_⟩
      refine ite_f (by rw [eqv_pair]; rfl) ?_
      -- [list(move) for move in told]
      have hF8 := e8 _ _ hF
      have hD8 := Dp.sameAll e8 hD
      refine ⟨_, rfl, f, rfl, ⟨_, SqL.of hF8⟩, fun D hD0 => ?_⟩
      refine lc_list (K := K) (a := f) (xs := us) (fun i H' => Same H8 H' ∧ ∃ ms, H' D = some (.lst ms) ∧ DpO K H' D ms ((W.take i).map mvL)) ⟨same_new hD0, [], upd_same, fun _ => .nil⟩ (fun i H' _ z => SqL.of (z.1 _ _ hF8)) ?_ ?_
      · rintro i z H9 hz ⟨e9, ms, g1, g2⟩
        obtain ⟨d, hd, dz⟩ := DpAll.get (Dp.sameAll e9 hD8) hz
        obtain ⟨m, hm, rfl⟩ : ∃ m, W[i]? = some m ∧ mvD m = d := by
          rw [List.getElem?_map] at hd
          cases q : W[i]? with
          | none => rw [q] at hd; cases hd
          | some r => rw [q] at hd; exact ⟨r, rfl, Option.some.inj hd⟩
        obtain ⟨pz, rfl, hpz⟩ := Dp.triple dz
        have hi : i < W.length := (List.getElem?_eq_some_iff.mp hm).1
        refine ⟨rfl, _, rfl, pz, _, rfl, .inr hpz, fun l hl => ?_⟩
        have nl : D ≠ l := ne_of_none g1 hl
        refine ⟨ms, by rw [upd_ne nl]; exact g1, ?_, same_mut (e9.trans (same_new hl)) hD0, ms ++ [.ref l], upd_same, ?_⟩
        · have q5 := DpAll.length (g2.at_ g1)
          rw [List.length_map, List.length_take] at q5
          exact szl (by omega)
        · rw [List.take_add_one, hm, List.map_append]
          exact g2.push hl nl fun o => .lst (SqL.of (by rw [upd_ne nl.symm, upd_same])) (.cons (.str _) (.cons (.str _) (.cons (.int _) .nil)))
      rintro H9 ⟨e9, ms1, g1, g2⟩
      have G2 := g2.at_ g1
      rw [lus, List.take_length] at G2
      have hF9 := e9 _ _ hF8
      have hD9 := Dp.sameAll e9 hD8
      -- [[str(m[0]), str(m[1]), int(m[2])] for m in told]
      refine ⟨_, rfl, f, rfl, ⟨_, SqL.of hF9⟩, fun E2 hE0 => ?_⟩
      refine lc_list (K := K) (a := f) (xs := us) (fun i H' => Same H9 H' ∧ ∃ ms, H' E2 = some (.lst ms) ∧ DpO K H' E2 ms ((W.take i).map mvL)) ⟨same_new hE0, [], upd_same, fun _ => .nil⟩ (fun i H' _ z => SqL.of (z.1 _ _ hF9)) ?_ ?_
      · rintro i z H10 hz ⟨e10, ms, g3, g4⟩
        obtain ⟨d, hd, dz⟩ := DpAll.get (Dp.sameAll e10 hD9) hz
        obtain ⟨m, hm, rfl⟩ : ∃ m, W[i]? = some m ∧ mvD m = d := by
          rw [List.getElem?_map] at hd
          cases q : W[i]? with
          | none => rw [q] at hd; cases hd
          | some r => rw [q] at hd; exact ⟨r, rfl, Option.some.inj hd⟩
        obtain ⟨pz, rfl, hpz⟩ := Dp.triple dz
        have hi : i < W.length := (List.getElem?_eq_some_iff.mp hm).1
        refine ⟨rfl, _, rfl, pz, _, _, _, rfl, rfl, hpz, at3_0 _ _ _, _, rfl, _, rfl, pz, _, _, _, rfl, rfl, hpz, at3_1 _ _ _, _, rfl, _, rfl, pz, _, _, _, rfl, rfl, hpz, at3_2 _ _ _, .inl ⟨_, rfl, s3, fun l hl => ?_⟩⟩
        have nl : E2 ≠ l := ne_of_none g3 hl
        refine ⟨ms, by rw [upd_ne nl]; exact g3, ?_, same_mut (e10.trans (same_new hl)) hE0, ms ++ [.ref l], upd_same, ?_⟩
        · have q5 := DpAll.length (g4.at_ g3)
          rw [List.length_map, List.length_take] at q5
          exact szl (by omega)
        · rw [List.take_add_one, hm, List.map_append]
          exact g4.push hl nl fun o => .lst (SqL.of (by rw [upd_ne nl.symm, upd_same])) (.cons (.str _) (.cons (.str _) (.cons (.int _) .nil)))
      rintro H10 ⟨e10, ms2, g3, g4⟩
      have G4 := g4.at_ g3
      rw [lus, List.take_length] at G4
      refine ⟨.ref D, .ref E2, .list (W.map mvL), rfl, .lst (SqL.of (e10 _ _ g1)) (Dp.sameAll e10 G2), .lst (SqL.of g3) G4, ?_, ?_, fun H11 e11 => ⟨true, rfl, ?_⟩⟩
      · have q5 := depthAll_map mvL_depth W
        show PyData.depthAll (W.map mvL) + 1 < 12
        omega
      · exact smallL (by rw [List.length_map]; omega) (smallDs_map mvL_small W)
      refine ite_f rfl ?_
      -- moves = list(told)
      have e611 : Same H7 H11 := e8.trans (e9.trans (e10.trans e11))
      have hF11 := e11 _ _ (e10 _ _ hF9)
      have hD11 := Dp.sameAll e611 hD
      refine ⟨_, rfl, f, us, rfl, .inl (SqL.of hF11), fun l hl => ?_⟩
      have nfl : f ≠ l := ne_of_none hF11 hl
      have el := same_new (o := .lst us) hl
      -- told.append(None)
      have hF12 : (upd H11 l (.lst us)) f = some (.lst us) := el _ _ hF11
      refine ⟨_, rfl, .inl ⟨rfl, _, SqL.of hF12⟩, f, us, .non, rfl, rfl, hF12, szl (by omega), ?_⟩
      have e613 : Same H6 (upd (upd H11 l (.lst us)) f (.lst (us ++ [.non]))) := same_mut (e7.trans (e611.trans el)) hf
      have hl13 : (upd (upd H11 l (.lst us)) f (.lst (us ++ [.non]))) l = some (.lst us) := by rw [upd_ne nfl.symm, upd_same]
      have hD13 : DpAll K (upd (upd H11 l (.lst us)) f (.lst (us ++ [.non]))) us (W.map mvD) := Dp.sameTs ((SameT.new hl).trans (.put hF12)) (noLs_map noL_mvD _) hD11
      generalize upd (upd H11 l (.lst us)) f (.lst (us ++ [.non])) = H13 at *
      -- not _law_same(way(a, b), moves)
      refine ⟨_, rfl, _, rfl, .ref p1, .ref p2, x, y, u, w, rfl, ⟨p1, rfl, seqT e613 hp1⟩, ⟨p2, rfl, seqT e613 hp2⟩, ok1, ok2, fun hn => absurd hg hn, fun _ f2 us2 H14 hf2 e14 hF2 hD2 => ?_⟩
      rw [hW] at hD2
      refine ⟨_, rfl, .ref f2, .ref l, .list (W.map mvD), rfl, .lst (SqL.of hF2) hD2, .lst (SqL.of (e14 _ _ hl13)) (Dp.sameAll e14 hD13), ?_, ?_, fun H15 e15 => ⟨true, rfl, ?_⟩⟩
      · have q5 := depthAll_map (f := mvD) (n := 1) (fun _ => Nat.le_refl _) W
        show PyData.depthAll (W.map mvD) + 1 < 12
        omega
      · exact smallL (by rw [List.length_map]; omega) (smallDs_map mvD_small W)
      refine ite_f rfl ?_
      have e1315 := e14.trans e15
      have hl15 := e1315 _ _ hl13
      have hD15 := Dp.sameAll e1315 hD13
      -- any([m[:2] == n[:2] for m, n in zip(moves, moves[1:])])
      refine ⟨_, rfl, _, rfl, 1, rfl, l, us, rfl, SqL.of hl15, fun p hp => ?_⟩
      have e16 := same_new (o := .lst (cutV us (some 1) none)) hp
      refine ⟨l, p, us, cutV us (some 1) none, rfl, .inl ⟨SqL.of (e16 _ _ hl15), SqL.of upd_same, fun D2 hD2' => ?_⟩⟩
      refine lc_it (walk_zip rfl) (fun i H' => Same (upd H15 p (.lst (cutV us (some 1) none))) H' ∧ H' D2 = some (.lst (List.replicate i (V.bl false)))) ⟨same_new hD2', upd_same⟩ (fun i H' _ q => ⟨SqL.of (q.1 _ _ (e16 _ _ hl15)), SqL.of (q.1 _ _ upd_same)⟩) ?_ ?_
      · rintro i z H17 H18 hi ⟨e17, g5⟩ ⟨T, z1, z2, rfl, hT, rfl, q1, q2⟩
        have e18 := e16.trans (e17.trans (same_new (o := .tup [z1, z2]) hT))
        dsimp only at q2; rw [cut_from1, List.getElem?_drop] at q2
        have get : ∀ {j : Nat} {z : V}, us[j]? = some z → ∃ m pz, W[j]? = some m ∧ z = .ref pz ∧ SqT K (upd H17 T (.tup [z1, z2])) pz [.str (if m.1 then "add" else "take"), .str (if m.2.1 then "x" else "y"), .int (m.2.2 : Int)] := fun {j z} hz => by
          obtain ⟨d, hd, dz⟩ := DpAll.get (Dp.sameAll e18 hD15) hz
          obtain ⟨m, hm, rfl⟩ : ∃ m, W[j]? = some m ∧ mvD m = d := by
            rw [List.getElem?_map] at hd
            cases q : W[j]? with
            | none => rw [q] at hd; cases hd
            | some r => rw [q] at hd; exact ⟨r, rfl, Option.some.inj hd⟩
          obtain ⟨pz, rfl, hpz⟩ := Dp.triple dz
          exact ⟨m, pz, hm, rfl, hpz⟩
        obtain ⟨m1, pz1, w1, rfl, t1⟩ := get q1
        obtain ⟨m2, pz2, w2, rfl, t2⟩ := get q2
        rw [Nat.add_comm] at w2
        have nk := halt i _ _ w1 w2
        refine ⟨T, _, rfl, SqT.of upd_same, rfl, _, _, rfl, _, _, rfl, rfl, rfl, ?_⟩
        refine ⟨_, rfl, 2, rfl, pz1, _, rfl, t1, (fun z => absurd (show HT.sIx 3 3 (some 2) = 3 from z.2) (by decide)), fun c1 hc1 => ?_⟩
        rw [cut_to2]
        have f1 := same_new (o := .tup [.str (if m1.1 then "add" else "take"), .str (if m1.2.1 then "x" else "y")]) hc1
        refine ⟨_, rfl, 2, rfl, pz2, _, rfl, seqT f1 t2, (fun z => absurd (show HT.sIx 3 3 (some 2) = 3 from z.2) (by decide)), fun c2 hc2 => ?_⟩
        rw [cut_to2]
        have f2 := same_new (o := .tup [.str (if m2.1 then "add" else "take"), .str (if m2.2.1 then "x" else "y")]) hc2
        have nT : D2 ≠ T := ne_of_none g5 hT
        have g6 : (upd H17 T (.tup [V.ref pz1, V.ref pz2])) D2 = some (.lst (List.replicate i (V.bl false))) := by rw [upd_ne nT]; exact g5
        refine ⟨kD (keyOf m1), kD (keyOf m2), .tup (seqT f2 (SqT.of upd_same)) (.cons (.str _) (.cons (.str _) .nil)), .tup (SqT.of upd_same) (.cons (.str _) (.cons (.str _) .nil)), shaped_kD _, shaped_kD _, ?_⟩
        refine ⟨_, f2 _ _ (f1 _ _ g6), ?_, same_mut ((e17.trans (same_new hT)).trans (f1.trans f2)) hD2', ?_⟩
        · rw [List.length_replicate]
          exact szl (by omega)
        · rw [upd_same, List.replicate_succ', eqv_kD, decide_eq_false nk]
      rintro H17 ⟨e17, g5⟩
      refine ⟨D2, List.replicate _ false, rfl, SqL.of (by rw [List.map_replicate]; exact g5), false, ?_, ite_f rfl ?_⟩
      · rw [show (List.replicate _ false).any id = false by simp]
      -- not _law_same(way(one=b, other=b), [])
      have e18 : Same H6 H17 := e613.trans (e1315.trans (e16.trans e17))
      refine ⟨_, rfl, _, rfl, .ref p2, .ref p2, u, w, u, w, rfl, ⟨p2, rfl, seqT e18 hp2⟩, ⟨p2, rfl, seqT e18 hp2⟩, ok2, ok2, fun hn => absurd rfl hn, fun _ f3 us3 H19 hf3 e19 hF3 hD3 => ?_⟩
      rw [wayM_self] at hD3
      refine ⟨(by show 0 ≤ sizeLine; decide), fun l3 hl3 => ?_⟩
      refine ⟨.ref f3, .ref l3, .list [], rfl, .lst (SqL.of (same_new hl3 _ _ hF3)) (Dp.sameAll (same_new hl3) hD3), .lst (SqL.of upd_same) .nil, by decide +kernel, by decide +kernel, fun H20 e20 => ⟨true, rfl, ite_f rfl ⟨_, _, _, _, _, _, _, _, _, _, rfl, ?_⟩⟩⟩
      exact B6.keep (e18.trans (e19.trans ((same_new hl3).trans e20)))
    · rintro σ H2 ⟨_, _, _, _, _, _, _, _, _, _, rfl, B2⟩
      refine ⟨s2, fun p1 h1 => ⟨s2, fun p2 h2 => ?_⟩⟩
      refine ⟨_, _, 10, 4, 0, 2, rfl, ⟨p1, rfl, seqT (same_new h2) (SqT.of upd_same)⟩, ⟨p2, rfl, SqT.of upd_same⟩, okP_small (by decide) (by decide) (by decide), okP_small (by decide) (by decide) (by decide), fun hn => absurd (by decide) hn, fun _ f us H3 hf e3 hF hD => ?_⟩
      rw [wayM_10_4] at hD
      refine ⟨s3, fun t1 ht1 => ⟨s3, fun t2 ht2 => ⟨s3, fun t3 ht3 => ⟨s3, fun l hl => ?_⟩⟩⟩⟩
      have e4 := (same_new (o := .tup [.str "take", .str "x", .int 2]) ht1).trans ((same_new (o := .tup [.str "take", .str "y", .int 1]) ht2).trans ((same_new (o := .tup [.str "take", .str "x", .int 1]) ht3).trans (same_new (o := .lst [.ref t1, .ref t2, .ref t3]) hl)))
      refine ⟨.list [mvD (false, true, 2), mvD (false, false, 1), mvD (false, true, 1)], .list [mvD (false, true, 2), mvD (false, false, 1), mvD (false, true, 1)], .lst (SqL.of (e4 _ _ hF)) (Dp.sameAll e4 hD),
        .lst (SqL.of upd_same) (.cons (.tup (seqT (same_new hl) (seqT (same_new ht3) (seqT (same_new ht2) (SqT.of upd_same)))) (.cons (.str _) (.cons (.str _) (.cons (.int _) .nil)))) (.cons (.tup (seqT (same_new hl) (seqT (same_new ht3) (SqT.of upd_same))) (.cons (.str _) (.cons (.str _) (.cons (.int _) .nil)))) (.cons (.tup (seqT (same_new hl) (SqT.of upd_same)) (.cons (.str _) (.cons (.str _) (.cons (.int _) .nil)))) .nil))), by decide +kernel, by decide +kernel, _, rfl, ?_⟩
      refine ite_t (by decide +kernel) ?_
      refine ⟨s2, fun p3 h3 => ⟨s2, fun p4 h4 => ?_⟩⟩
      refine ⟨_, _, 1, 2, 2, 2, rfl, ⟨p3, rfl, seqT (same_new h4) (SqT.of upd_same)⟩, ⟨p4, rfl, SqT.of upd_same⟩, okP_small (by decide) (by decide) (by decide), okP_small (by decide) (by decide) (by decide), fun _ H5 e5 => ⟨rfl, k _⟩, fun hn => absurd hn (by decide)⟩

end
theorem all (P : Program) (w : World) (base : Heap) {K : PySem.W.Frag} {mg : Str → Option Value} {fd : FuncData} (E : En K mg) (F : FunD K "law" "law" (defArgs s_law) (defBody s_law) (defScope s_law) [] [] (He.ga K "law") fd) :
    FnOk P w K mg base CX0 13 (He.ga K "law") fd ["script"] (sp_law K) := by
  have G_merged := ok_merged (P := P) (w := w) (base := base) E
  have G_rest_of := ok_rest_of (P := P) (w := w) (base := base) E
  have G_is_number := ok_is_number (P := P) (w := w) (base := base) E
  have G_is_pair := ok_is_pair (P := P) (w := w) (base := base) E G_is_number
  have G_need_pair := ok_need_pair (P := P) (w := w) (base := base) E G_is_pair
  have G_bottom := ok_bottom (P := P) (w := w) (base := base) E G_need_pair
  have G_common_divisor := ok_common_divisor (P := P) (w := w) (base := base) E
  have G_divisor := ok_divisor (P := P) (w := w) (base := base) E G_common_divisor G_need_pair
  have G_runs := ok_runs (P := P) (w := w) (base := base) E G_need_pair
  have G_way := ok_way (P := P) (w := w) (base := base) E G_merged G_rest_of G_bottom G_divisor G_runs
  have G__law_same := ok__law_same (P := P) (w := w) (base := base) E
  have G__law_led := ok__law_led (P := P) (w := w) (base := base) E
  have G__law_gcd := ok__law_gcd (P := P) (w := w) (base := base) E
  have G__law_pull := ok__law_pull (P := P) (w := w) (base := base) E
  have G__law_of := ok__law_of (P := P) (w := w) (base := base) E G__law_pull
  have G__law_far_pair := ok__law_far_pair (P := P) (w := w) (base := base) E G__law_pull G__law_of
  have G__law_pair := ok__law_pair (P := P) (w := w) (base := base) E G__law_pull
  have G__law_bag := ok__law_bag (P := P) (w := w) (base := base) E
  exact ok_law F E G_way G__law_same G__law_led G__law_gcd G__law_pull G__law_of G__law_far_pair G__law_pair G__law_bag
abbrev Rw : PySem.W.OpenRow := PySem.W.OpenLaw.row PySem.Challenge.rw_addpath_k05_ways_between_pairs
abbrev hk : PySem.W.Hook := He.hookD 4 fal fnl
def ob (s : PySem.W.SharedT) : He.AlD := He.obsDG 4 fal fnl (HandSHeadRun.getT s)
theorem ob_eq (s : PySem.W.SharedT) : ob s = hk.obs s.abs := He.obsDG_eq (HandSHeadRun.getT_eq s)
def loose : List Str := ["PathError", "InvalidPair", "is_number", "common_divisor", "is_pair", "need_pair", "divisor", "bottom", "runs", "rest_of", "merged", "way", "_law_bag", "_law_pull", "_law_of", "_law_same", "_law_gcd", "_law_pair", "_law_far_pair", "_law_led"]
theorem run (w : World) : HandSHeadRun.RunEq Rw (PySem.W.view Rw.prog [24]) hk ob 3000 loose w := by
  intro os
  kernel_rfl
end Lw
open PySem PySem.W PySem.Calls PyProof.Rows
set_option maxRecDepth 100000 in
set_option maxHeartbeats 0 in
theorem PySem.Challenge.cw_addpath_k05_ways_between_pairs_holds : PySem.Challenge.rw_addpath_k05_ways_between_pairs.Holds := by
  w_on; o_law
  refine HandSHeadRun.head_any (r := OpenLaw.row PySem.Challenge.rw_addpath_k05_ways_between_pairs) (q := view (OpenLaw.row PySem.Challenge.rw_addpath_k05_ways_between_pairs).prog [24]) (H := Lw.hk) (ob := Lw.ob) (M := 3000) (loose := Lw.loose) (d := HandSHeadRun.topDef (OpenLaw.row PySem.Challenge.rw_addpath_k05_ways_between_pairs).prog 24) (kwd := []) Lw.ob_eq
    (by kernel_rfl) (fun s => by kernel_rfl) Lw.run (by kernel_rfl) (by kernel_rfl) (by kernel_rfl) (by rfl) (by first | assumption | decide +kernel) (by decide +kernel) ⟨rfl, rfl, rfl, rfl, rfl, by decide +kernel⟩ ?hw ?hc
  case hw => w_witness2
  case hc =>
    refine L2.walk_ofE (l := PySem.Challenge.rw_addpath_k05_ways_between_pairs) (n := 63) (k := 13) (x := "script") (CX := L2.CX0) rfl (by decide) (by kernel_rfl) ⟨rfl, by decide, by decide⟩ ?F (fun _ _ _ _ z => z)
    intro w mg fa h Y G hmg0
    obtain ⟨K, KX, c⟩ := Y
    have hmg : mg ("law" : PySem.Str) = some (.ref fa) := by
      have e : (HandSHeadRun.topDef (OpenLaw.row PySem.Challenge.rw_addpath_k05_ways_between_pairs).prog 24).name = ("law" : PySem.Str) := by kernel_rfl
      rw [← e]
      exact hmg0
    exact Bx.closing (sp := Lw.sp_law) KX G hmg c (fun E => Lw.En.gl E "law") (c.def_ 18 (d := Lw.d_law) rfl) (fun base fd E F => Lw.all _ w base E F) (fun F s v => L2.FunD.bindsA (ps := ["script"]) F (fun _ _ _ _ _ _ us hl => match us, hl with | [_], _ => rfl) s [v] rfl)
      (fun H a ns hl hS => Lw.sp_law_holds H a ns hl hS)
#print axioms PySem.Challenge.cw_addpath_k05_ways_between_pairs_holds
