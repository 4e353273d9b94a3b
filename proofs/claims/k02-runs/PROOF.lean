import PyProof.Rows.All
import Wide.All
import OpenK.AllK
import Wide.FinOn
import PyProof.EqAt
import PyProof.EqKinds
import PyProof.TupleCall
import KE.KStateDown
import HandS.ForMost
import HandS.More
import HandS.Wide
import HandS.IsInst
import HandS.Zip
import HandS.TupAny
import HandS.Steps
import HandS.Exc
import HandS.Defaults
import HandS.Style
import HandS.Head0
import HandS.Head1
import HandS.Head2
import HandS.HeadEnd
import HandS.HeadHook1
import HandS.HeadHook2
import HandS.Walk
import HandS.Codes
import PySem.Challenge.RW_addpath_k02_runs_of_paths
set_option Elab.async false
set_option linter.all false
set_option maxRecDepth 100000
set_option maxHeartbeats 4000000
/-! small things that all defs lean on -/
namespace Bx
open PySem PySem.Spec PyProof.Rows L2
/-- what the head has told: the facts of names, the defs -/
structure Env (fal : List He.Fa) (fnl : List He.DefD) (K : PySem.W.Frag) (mg : Str → Option Value) : Prop where
  ex : ∃ h : Heap, K.In h ∧ h.Ns mainGlobals mg
  says : He.SaysD fal fnl K
theorem Env.ok {fal : List He.Fa} {fnl : List He.DefD} {K : PySem.W.Frag} {mg : Str → Option Value} (E : Env fal fnl K mg) {f : He.Fa} (h : f ∈ fal) : f.ok K = true := by
  obtain ⟨i, hi⟩ := List.getElem?_of_mem h
  exact E.says.fact i hi
theorem Env.glo {fal : List He.Fa} {fnl : List He.DefD} {K : PySem.W.Frag} {mg : Str → Option Value} (E : Env fal fnl K mg) (x : Str) (h : He.Fa.glo x ∈ fal) : mg x = some (.ref (He.ga K x)) := by
  obtain ⟨hp, X, G⟩ := E.ex
  exact He.glo_ok X G (E.ok h)
theorem Env.free {fal : List He.Fa} {fnl : List He.DefD} {K : PySem.W.Frag} {mg : Str → Option Value} (E : Env fal fnl K mg) (x : Str) (h : He.Fa.free x ∈ fal) : mg x = none := by
  obtain ⟨hp, X, G⟩ := E.ex
  exact He.free_ok X G (E.ok h)
/-- a def that stands under the module's name x and keeps its promise -/
def Good (P : Program) (w : World) (K : PySem.W.Frag) (mg : Str → Option Value) (base : Heap) (CX : CXT) (k : Nat) (x : Str) (ps : List Str) (sp : Sp) : Prop :=
  ∃ fd, FnOk P w K mg base CX k (He.ga K x) fd ps sp ∧ Binds K fd ps [] ∧ PySem.W.keepIn K (.ref (He.ga K x)) = true ∧ mg x = some (.ref (He.ga K x))
section
variable {X : Cx} {CX : CXT} {k : Nat} {ps : List Str} {sp : Sp} {E : XK} {x : Str} {p pos : Pos} {e : Expr} {es : List Expr} {t : TA}
theorem pe_G (F : Good X.prog X.w X.K X.mg X.base CX k x ps sp) (hr : Room k X.A) (hg : Gl X x) (hx : Passes CX X E) (ha : PA X (e :: es) t)
    (hdb : (x == ("__debug__" : Str)) = false := by decide) (he : starEach (e :: es) X.env = (false, eval e X.env) :: starEach es X.env := by rfl) (hpl : (backTo pos (starEach es X.env)).any (·.1) = false := by rfl) :
    PE X (.Call (.Name x p) (e :: es) [] pos) (tCall sp [] E t) := by
  obtain ⟨fd, F, b, kp, m⟩ := F
  exact pe_call F hr hg m kp b .nil hx ha hdb he hpl
end
theorem ite_f {c : Bool} {A B : Prop} (hc : c = false) (h : B) : if c = true then A else B := by
  rw [hc]
  exact iteF h
theorem ite_t {c : Bool} {A B : Prop} (hc : c = true) (h : A) : if c = true then A else B := by
  rw [hc]
  exact iteT h
theorem dne {i j : Int} (h : i ≠ j) : decide (V.int i = V.int j) = false := decide_eq_false fun z => h (V.int.inj z)
theorem deq {i j : Int} (h : i = j) : decide (V.int i = V.int j) = true := decide_eq_true (congrArg V.int h)
theorem hu64_of {A : Around} {k : Nat} (hr : Room k A) : A.units + 64 < cLine := Nat.lt_of_le_of_lt (Nat.le_refl _) hr.units
theorem closing {fal : List He.Fa} {fnl : List He.DefD} {P : Program} {w : World} {K : PySem.W.Frag} {h : Heap} {mg : Str → Option Value} {fa : Addr} {k : Nat} {sp : PySem.W.Frag → Sp} {pa : Arguments} {bd : List Stmt} {sc : Scope}
    (KX : K.In h) (G : h.Ns mainGlobals mg) (hmg : mg ("law" : Str) = some (.ref fa)) (c : He.SaysD fal fnl K) (gl : Env fal fnl K mg → mg ("law" : Str) = some (.ref (He.ga K "law")))
    (D : ∃ fd, FunD K "law" "law" pa bd sc [] [] (He.ga K "law") fd)
    (F : ∀ (base : Heap) (fd : FuncData), Env fal fnl K mg → FunD K "law" "law" pa bd sc [] [] (He.ga K "law") fd → FnOk P w K mg base CX0 k (He.ga K "law") fd ["script"] (sp K))
    (b : ∀ {fd : FuncData}, FunD K "law" "law" pa bd sc [] [] (He.ga K "law") fd → ∀ (s : Shared) (v : Value), BindsTo s fd ⟨[v], []⟩ [("script", v)])
    (hsp : ∀ (H : Hp) (a : Addr) (ns : List Int), ns.length ≤ 63 → SqL K H a (ns.map V.int) → sp K [.ref a] H (fun v _ => v = .bl true) fun _ _ _ => False) :
    ∃ (K : PySem.W.Frag) (fd : FuncData) (sp : Sp), K.In h ∧ (∀ (s : Shared) (u : Value), BindsTo s fd ⟨[u], []⟩ [("script", u)]) ∧
        (∀ (H : Hp) (a : Addr) (ns : List Int), ns.length ≤ 63 → Only H → SqL K H a (ns.map V.int) → sp [.ref a] H (fun v _ => v = .bl true) fun _ _ _ => False) ∧
        ∀ base : Heap, K.In base → base.Ns mainGlobals mg → FnOk P w K mg base CX0 k fa fd ["script"] sp := by
  have E : Env fal fnl K mg := ⟨⟨h, KX, G⟩, c⟩
  obtain ⟨fd, hD⟩ := D
  have e := (gl E).symm.trans hmg
  cases e
  exact ⟨K, fd, sp K, KX, b hD, fun H a ns hl _ hS => hsp H a ns hl hS, fun base _ _ => F base fd E hD⟩
end Bx

/-! slices, kinds, places -/
namespace Bx
open PySem PySem.Spec PyProof.Rows L2
theorem cut_to {xs : List V} {n : Nat} (h : xs.length ≤ n) : cutV xs none (some (n : Int)) = xs := by
  unfold cutV
  rw [HT.sIx_none, HT.sIx_nat, Nat.min_eq_right h, List.drop_zero, Nat.sub_zero, List.take_length]
theorem cut63 {xs : List V} (h : xs.length ≤ 63) : cutV xs none (some 63) = xs := cut_to (n := 63) h
theorem cut_from1 (xs : List V) : cutV xs (some 1) none = xs.drop 1 := by
  unfold cutV
  rw [HT.sIx_none, show (1 : Int) = ((1 : Nat) : Int) from rfl, HT.sIx_nat]
  cases xs with
  | nil => rfl
  | cons x r => simp
theorem tyL {K : PySem.W.Frag} {H : Hp} {a : Addr} {xs : List V} (h : SqL K H a xs) : TyX K H (.ref a) (.type "list") := by
  rcases h with (h | ⟨o, h⟩) | ⟨o, its, n, h, c, _⟩
  · exact .base (.lst h)
  · exact .base (.frz h)
  · exact .kList h c
theorem tyT {K : PySem.W.Frag} {H : Hp} {a : Addr} {xs : List V} (h : SqT K H a xs) : TyX K H (.ref a) (.type "tuple") := by
  rcases h with (h | ⟨o, h⟩) | ⟨o, its, n, h, c, _⟩
  · exact .base (.tup h)
  · exact .fTuple h
  · exact .kTuple h c
/-- isinstance(x, T), both built-in -/
theorem isi {K : PySem.W.Frag} {H : Hp} {x : V} {a b : String} {r : Bool} {Q : VK} (t : TyX K H x (.type a)) (e : kitB a b = some r) (q : Q (.bl r) H) : rIsi K [x, .ty b] H Q :=
  ⟨x, .ty b, _, _, r, rfl, .ty b, t, kit_ty e, q⟩
theorem seqT {K : PySem.W.Frag} {H H' : Hp} {a : Addr} {xs : List V} (e : Same H H') (h : SqT K H a xs) : SqT K H' a xs := by
  rcases h with (h | ⟨o, h⟩) | h
  · exact .inl (.inl (e _ _ h))
  · exact .inl (.inr ⟨o, e _ _ h⟩)
  · exact .inr h
theorem same_new {H : Hp} {p : Addr} {o : HO} (h : H p = none) : Same H (upd H p o) := fun b u q => by rw [upd_ne (ne_of_none q h)]; exact q
/-- an object that H does not know may change -/
theorem same_mut {H H' : Hp} {p : Addr} {o : HO} (e : Same H H') (h : H p = none) : Same H (upd H' p o) := fun b u q => by rw [upd_ne (ne_of_none q h)]; exact e b u q
theorem sz {n : Nat} (h : n ≤ 100000) : n ≤ sizeLine := Nat.le_trans h (by decide)
theorem szl {n : Nat} (h : n < 100000) : n < sizeLine := Nat.lt_of_lt_of_le h (by decide)
/-- all but the object at b is as it was -/
def Kp (b : Addr) (H H' : Hp) : Prop := ∀ a o, a ≠ b → H a = some o → H' a = some o
theorem Kp.refl (b : Addr) (H : Hp) : Kp b H H := fun _ _ _ h => h
theorem Kp.trans {b : Addr} {H H1 H2 : Hp} (x : Kp b H H1) (y : Kp b H1 H2) : Kp b H H2 := fun a o n h => y a o n (x a o n h)
theorem Kp.of {b : Addr} {H H' : Hp} (x : Same H H') : Kp b H H' := fun a o _ h => x a o h
theorem Kp.put {b : Addr} {H : Hp} {o : HO} : Kp b H (L2.upd H b o) := fun a u n h => by rw [upd_ne n]; exact h
theorem Kp.new {b p : Addr} {H H' : Hp} {o : HO} (e : Kp b H H') (h : H' p = none) : Kp b H (L2.upd H' p o) := e.trans (Kp.of (same_new h))
end Bx
namespace Bx
open PySem PySem.Spec PyProof.Rows L2
theorem Kp.seq {K : PySem.W.Frag} {b a : Addr} {H H' : Hp} {xs : List V} (e : Kp b H H') (n : a ≠ b) (h : SqL K H a xs) : SqL K H' a xs := by
  rcases h with (h | ⟨o, h⟩) | h
  · exact .inl (.inl (e _ _ n h))
  · exact .inl (.inr ⟨o, e _ _ n h⟩)
  · exact .inr h
end Bx

-- needs lists
/-! data of any depth in a heap that grows -/
namespace Bx
open PySem PySem.Spec PyProof.Rows L2
mutual
theorem Dp.same {K : PySem.W.Frag} {H H' : Hp} (e : Same H H') : ∀ {d : PyData} {v : V}, Dp K H v d → Dp K H' v d
  | .none, _, h => by cases h; exact .non
  | .bool _, _, h => by cases h; exact .bl _
  | .int _, _, h => by cases h; exact .int _
  | .str _, _, h => by cases h; exact .str _
  | .list _, _, h => by
    cases h with
    | lst hs ha => exact .lst (e.seq hs) (Dp.sameAll e ha)
  | .tuple _, _, h => by
    cases h with
    | tup hs ha => exact .tup (seqT e hs) (Dp.sameAll e ha)
  | .dict _, _, h => by cases h
theorem Dp.sameAll {K : PySem.W.Frag} {H H' : Hp} (e : Same H H') : ∀ {ds : List PyData} {vs : List V}, DpAll K H vs ds → DpAll K H' vs ds
  | [], _, h => by cases h; exact .nil
  | _ :: _, _, h => by
    cases h with
    | cons h1 h2 => exact .cons (Dp.same e h1) (Dp.sameAll e h2)
end
theorem DpAll.length {K : PySem.W.Frag} {H : Hp} : ∀ {ds : List PyData} {vs : List V}, DpAll K H vs ds → vs.length = ds.length
  | [], _, h => by cases h; rfl
  | _ :: _, _, h => by
    cases h with
    | cons h1 h2 => exact congrArg Nat.succ (DpAll.length h2)
theorem DpAll.get {K : PySem.W.Frag} {H : Hp} : ∀ {ds : List PyData} {vs : List V} {i : Nat} {v : V}, DpAll K H vs ds → vs[i]? = some v → ∃ d, ds[i]? = some d ∧ Dp K H v d
  | [], _, _, _, h, e => by cases h; cases e
  | _ :: _, _, 0, _, h, e => by
    cases h with
    | cons h1 h2 =>
      cases e
      exact ⟨_, rfl, h1⟩
  | _ :: _, _, i + 1, _, h, e => by
    cases h with
    | cons h1 h2 =>
      obtain ⟨d, q1, q2⟩ := DpAll.get (i := i) h2 (by simpa using e)
      exact ⟨d, by simpa using q1, q2⟩
theorem DpAll.append {K : PySem.W.Frag} {H : Hp} : ∀ {ds es : List PyData} {vs us : List V}, DpAll K H vs ds → DpAll K H us es → DpAll K H (vs ++ us) (ds ++ es)
  | [], _, _, _, h, g => by cases h; exact g
  | _ :: _, _, _, _, h, g => by
    cases h with
    | cons h1 h2 => exact .cons h1 (DpAll.append h2 g)
theorem DpAll.one {K : PySem.W.Frag} {H : Hp} {d : PyData} {v : V} (h : Dp K H v d) : DpAll K H [v] [d] := .cons h .nil
/-- two things of one tuple -/
theorem Dp.pair {K : PySem.W.Frag} {H : Hp} {v : V} {d e : PyData} (h : Dp K H v (.tuple [d, e])) : ∃ a x y, v = .ref a ∧ SqT K H a [x, y] ∧ Dp K H x d ∧ Dp K H y e := by
  cases h with
  | @tup a xs _ hs ha =>
    cases ha with
    | cons h1 h2 =>
      cases h2 with
      | cons h3 h4 =>
        cases h4
        exact ⟨_, _, _, rfl, hs, h1, h3⟩
theorem Dp.lst' {K : PySem.W.Frag} {H : Hp} {v : V} {ds : List PyData} (h : Dp K H v (.list ds)) : ∃ a xs, v = .ref a ∧ SqL K H a xs ∧ DpAll K H xs ds := by
  cases h with
  | lst hs ha => exact ⟨_, _, rfl, hs, ha⟩
theorem Dp.int' {K : PySem.W.Frag} {H : Hp} {v : V} {i : Int} (h : Dp K H v (.int i)) : v = .int i := by cases h; rfl
theorem Dp.str' {K : PySem.W.Frag} {H : Hp} {v : V} {x : Str} (h : Dp K H v (.str x)) : v = .str x := by cases h; rfl
theorem Dp.bl' {K : PySem.W.Frag} {H : Hp} {v : V} {x : Bool} (h : Dp K H v (.bool x)) : v = .bl x := by cases h; rfl
theorem Dp.non' {K : PySem.W.Frag} {H : Hp} {v : V} (h : Dp K H v .none) : v = .non := by cases h; rfl
end Bx
namespace Bx
open PySem PySem.Spec PyProof.Rows L2
/-- all that is no list is as it was -/
def SameT (H H' : Hp) : Prop := ∀ a o, H a = some o → (∀ ys, o ≠ .lst ys) → H' a = some o
theorem SameT.refl (H : Hp) : SameT H H := fun _ _ h _ => h
theorem SameT.trans {H H1 H2 : Hp} (x : SameT H H1) (y : SameT H1 H2) : SameT H H2 := fun a o h n => y a o (x a o h n) n
theorem SameT.of {H H' : Hp} (e : Same H H') : SameT H H' := fun a o h _ => e a o h
theorem SameT.put {H : Hp} {a : Addr} {xs : List V} {o : HO} (h : H a = some (.lst xs)) : SameT H (L2.upd H a o) := fun b u q n => by
  have nb : b ≠ a := fun z => by
    rw [z, h] at q
    exact n _ (Option.some.inj q).symm
  rw [upd_ne nb]
  exact q
theorem SameT.new {H : Hp} {p : Addr} {o : HO} (h : H p = none) : SameT H (L2.upd H p o) := .of (same_new h)
theorem SameT.seqT {K : PySem.W.Frag} {H H' : Hp} {a : Addr} {xs : List V} (e : SameT H H') (h : SqT K H a xs) : SqT K H' a xs := by
  rcases h with (h | ⟨o, h⟩) | h
  · exact .inl (.inl (e _ _ h fun _ z => by cases z))
  · exact .inl (.inr ⟨o, e _ _ h fun _ z => by cases z⟩)
  · exact .inr h
mutual
/-- no list within -/
def noL : PyData → Bool
  | .none => true
  | .bool _ => true
  | .int _ => true
  | .str _ => true
  | .list _ => false
  | .tuple ds => noLs ds
  | .dict _ => false
def noLs : List PyData → Bool
  | [] => true
  | d :: ds => noL d && noLs ds
end
mutual
theorem Dp.sameT {K : PySem.W.Frag} {H H' : Hp} (e : SameT H H') : ∀ {d : PyData} {v : V}, noL d = true → Dp K H v d → Dp K H' v d
  | .none, _, _, h => by cases h; exact .non
  | .bool _, _, _, h => by cases h; exact .bl _
  | .int _, _, _, h => by cases h; exact .int _
  | .str _, _, _, h => by cases h; exact .str _
  | .list _, _, n, _ => by cases n
  | .tuple _, _, n, h => by
    cases h with
    | tup hs ha => exact .tup (e.seqT hs) (Dp.sameTs e (by rw [noL] at n; exact n) ha)
  | .dict _, _, _, h => by cases h
theorem Dp.sameTs {K : PySem.W.Frag} {H H' : Hp} (e : SameT H H') : ∀ {ds : List PyData} {vs : List V}, noLs ds = true → DpAll K H vs ds → DpAll K H' vs ds
  | [], _, _, h => by cases h; exact .nil
  | _ :: _, _, n, h => by
    cases h with
    | cons h1 h2 =>
      rw [noLs, Bool.and_eq_true] at n
      exact .cons (Dp.sameT e n.1 h1) (Dp.sameTs e n.2 h2)
end
theorem noLs_map {α : Type} {f : α → PyData} (h : ∀ x, noL (f x) = true) : ∀ l : List α, noLs (l.map f) = true
  | [] => rfl
  | x :: l => by rw [List.map_cons, noLs, h x, noLs_map h l]; rfl
end Bx
namespace Bx
open PySem PySem.Spec PyProof.Rows L2
mutual
/-- no list or tuple has more than 90000 items -/
def smallD : PyData → Bool
  | .list ds => decide (ds.length ≤ 90000) && smallDs ds
  | .tuple ds => decide (ds.length ≤ 90000) && smallDs ds
  | _ => true
def smallDs : List PyData → Bool
  | [] => true
  | d :: ds => smallD d && smallDs ds
end
theorem smallDs_get : ∀ {ds : List PyData} {i : Nat} {d : PyData}, smallDs ds = true → ds[i]? = some d → smallD d = true
  | [], _, _, _, h => by cases h
  | _ :: _, 0, _, s, h => by
    cases h
    rw [smallDs, Bool.and_eq_true] at s
    exact s.1
  | _ :: ds, i + 1, _, s, h => by
    rw [smallDs, Bool.and_eq_true] at s
    exact smallDs_get (ds := ds) (i := i) s.2 (by simpa using h)
theorem small_ofL {ds : List PyData} (h : smallD (.list ds) = true) : ds.length ≤ 90000 ∧ ∀ {i : Nat} {d : PyData}, ds[i]? = some d → smallD d = true := by
  rw [smallD, Bool.and_eq_true] at h
  exact ⟨of_decide_eq_true h.1, smallDs_get h.2⟩
theorem small_ofT {ds : List PyData} (h : smallD (.tuple ds) = true) : ds.length ≤ 90000 ∧ ∀ {i : Nat} {d : PyData}, ds[i]? = some d → smallD d = true := by
  rw [smallD, Bool.and_eq_true] at h
  exact ⟨of_decide_eq_true h.1, smallDs_get h.2⟩
theorem smallDs_map {α : Type} {f : α → PyData} (h : ∀ x, smallD (f x) = true) : ∀ l : List α, smallDs (l.map f) = true
  | [] => rfl
  | x :: l => by rw [List.map_cons, smallDs, h x, smallDs_map h l]; rfl
theorem smallL {ds : List PyData} (h : ds.length ≤ 90000) (h2 : smallDs ds = true) : smallD (.list ds) = true := by rw [smallD, h2, decide_eq_true h]; rfl
end Bx
namespace Bx
open PySem PySem.Spec PyProof.Rows L2
theorem depthAll_map {α : Type} {f : α → PyData} {n : Nat} (h : ∀ x, (f x).depth ≤ n) : ∀ l : List α, PyData.depthAll (l.map f) ≤ n
  | [] => Nat.zero_le _
  | x :: l => by
    rw [List.map_cons, PyData.depthAll]
    exact Nat.max_le.mpr ⟨h x, depthAll_map h l⟩
end Bx

-- needs deep
/-! pairs of numbers, their runs, their letters -/
namespace Bx
open PySem PySem.Spec PyProof.Rows L2
/-- a pair with numbers from 0 on, not both 0, below 2 ^ 4000 -/
def okP (x y : Nat) : Prop := ¬ (x = 0 ∧ y = 0) ∧ x < 2 ^ 4000 ∧ y < 2 ^ 4000
def PairAt (K : PySem.W.Frag) (H : Hp) (v : V) (x y : Nat) : Prop := ∃ a, v = .ref a ∧ SqT K H a [.int (x : Int), .int (y : Int)]
theorem PairAt.same {K : PySem.W.Frag} {H H' : Hp} {v : V} {x y : Nat} (h : PairAt K H v x y) (e : Same H H') : PairAt K H' v x y := by
  obtain ⟨a, e1, h⟩ := h
  exact ⟨a, e1, seqT e h⟩
theorem at2_0 (a b : V) : atI [a, b] 0 = some a := rfl
theorem at2_1 (a b : V) : atI [a, b] 1 = some b := rfl
/-- the runs from the top: true is X -/
def R (x y : Nat) : List (Bool × Nat) :=
  if h : 0 < x ∧ 0 < y ∧ x ≠ y then
    if x > y then (true, (x - 1) / y) :: R (x - (x - 1) / y * y) y else (false, (y - 1) / x) :: R x (y - (y - 1) / x * x)
  else []
termination_by x + y
decreasing_by
  · have h1 : 0 < (x - 1) / y := Nat.div_pos (by omega) h.2.1
    have h2 : 0 < (x - 1) / y * y := Nat.mul_pos h1 h.2.1
    omega
  · have h1 : 0 < (y - 1) / x := Nat.div_pos (by omega) h.1
    have h2 : 0 < (y - 1) / x * x := Nat.mul_pos h1 h.1
    omega
theorem R_nil {x y : Nat} (h : ¬ (0 < x ∧ 0 < y ∧ x ≠ y)) : R x y = [] := by rw [R, dif_neg h]
theorem R_x {x y : Nat} (h : 0 < y) (h2 : x > y) : R x y = (true, (x - 1) / y) :: R (x - (x - 1) / y * y) y := by
  rw [R, dif_pos ⟨by omega, h, by omega⟩, if_pos h2]
theorem R_y {x y : Nat} (h : 0 < x) (h2 : y > x) : R x y = (false, (y - 1) / x) :: R x (y - (y - 1) / x * x) := by
  rw [R, dif_pos ⟨h, by omega, by omega⟩, if_neg (by omega)]
theorem dm_le (x y : Nat) : (x - 1) / y * y ≤ x := Nat.le_trans (Nat.div_mul_le_self _ _) (Nat.sub_le _ _)
theorem dm_lt {x y : Nat} (h : 0 < y) (h2 : x > y) : x - (x - 1) / y * y < x ∧ 0 < x - (x - 1) / y * y := by
  have h1 : 0 < (x - 1) / y := Nat.div_pos (by omega) h
  have h3 : 0 < (x - 1) / y * y := Nat.mul_pos h1 h
  have h4 : (x - 1) / y * y ≤ x - 1 := Nat.div_mul_le_self _ _
  omega
theorem cast_div {x y : Nat} (h : 0 < x) : ((x : Int) - 1) / (y : Int) = (((x - 1) / y : Nat) : Int) := by
  rw [Int.natCast_ediv]
  congr 1
  omega
theorem cast_sub {x y : Nat} : (x : Int) - (((x - 1) / y : Nat) : Int) * (y : Int) = ((x - (x - 1) / y * y : Nat) : Int) := by
  rw [Int.ofNat_sub (dm_le x y), Int.natCast_mul]
def letS (b : Bool) : Str := if b then "X" else "Y"
def runD (r : Bool × Nat) : PyData := .tuple [.str (letS r.1), .int (r.2 : Int)]
def runsD (l : List (Bool × Nat)) : PyData := .list (l.map runD)
/-- the letters from the top, one by one -/
def L (x y : Nat) : List Bool :=
  if h : 0 < x ∧ 0 < y ∧ x ≠ y then
    if x > y then true :: L (x - y) y else false :: L x (y - x)
  else []
termination_by x + y
theorem L_nil {x y : Nat} (h : ¬ (0 < x ∧ 0 < y ∧ x ≠ y)) : L x y = [] := by rw [L, dif_neg h]
theorem L_x {x y : Nat} (h : 0 < y) (h2 : x > y) : L x y = true :: L (x - y) y := by rw [L, dif_pos ⟨by omega, h, by omega⟩, if_pos h2]
theorem L_y {x y : Nat} (h : 0 < x) (h2 : y > x) : L x y = false :: L x (y - x) := by rw [L, dif_pos ⟨h, by omega, by omega⟩, if_neg (by omega)]
theorem L_xs {y : Nat} (h : 0 < y) : ∀ (k x : Nat), k * y < x → L x y = List.replicate k true ++ L (x - k * y) y
  | 0, x, _ => by simp
  | k + 1, x, h2 => by
    have e : (k + 1) * y = k * y + y := Nat.succ_mul k y
    rw [e] at h2
    rw [L_x h (by omega), L_xs h k (x - y) (by omega), List.replicate_succ, List.cons_append, show x - y - k * y = x - (k + 1) * y by omega]
theorem L_ys {x : Nat} (h : 0 < x) : ∀ (k y : Nat), k * x < y → L x y = List.replicate k false ++ L x (y - k * x)
  | 0, y, _ => by simp
  | k + 1, y, h2 => by
    have e : (k + 1) * x = k * x + x := Nat.succ_mul k x
    rw [e] at h2
    rw [L_y h (by omega), L_ys h k (y - x) (by omega), List.replicate_succ, List.cons_append, show y - x - k * x = y - (k + 1) * x by omega]
def spell (l : List (Bool × Nat)) : List Bool := l.flatMap fun r => List.replicate r.2 r.1
theorem spell_R (x y : Nat) : spell (R x y) = L x y := by
  by_cases h : 0 < x ∧ 0 < y ∧ x ≠ y
  · by_cases h2 : x > y
    · have d := dm_lt h.2.1 h2
      rw [R_x h.2.1 h2]
      show List.replicate _ true ++ spell (R _ y) = _
      rw [spell_R (x - (x - 1) / y * y) y, ← L_xs h.2.1 ((x - 1) / y) x (by omega)]
    · have d := dm_lt h.1 (show y > x by omega)
      rw [R_y h.1 (by omega)]
      show List.replicate _ false ++ spell (R x _) = _
      rw [spell_R x (y - (y - 1) / x * x), ← L_ys h.1 ((y - 1) / x) y (by omega)]
  · rw [R_nil h, L_nil h]
    rfl
termination_by x + y
theorem spell_len : ∀ l : List (Bool × Nat), (spell l).length = (l.map (·.2)).sum
  | [] => rfl
  | r :: l => by
    show (List.replicate r.2 r.1 ++ spell l).length = _
    rw [List.length_append, List.length_replicate, spell_len l, List.map_cons, List.sum_cons]
theorem L_le (x y : Nat) : (L x y).length ≤ x + y := by
  by_cases h : 0 < x ∧ 0 < y ∧ x ≠ y
  · by_cases h2 : x > y
    · rw [L_x h.2.1 h2, List.length_cons]
      have := L_le (x - y) y
      omega
    · rw [L_y h.1 (by omega), List.length_cons]
      have := L_le x (y - x)
      omega
  · rw [L_nil h]
    exact Nat.zero_le _
termination_by x + y
/-- runs halve the numbers: there are few -/
theorem R_len (n : Nat) : ∀ (x y : Nat), x * y < 2 ^ n → (R x y).length ≤ n := by
  induction n with
  | zero =>
    intro x y h
    have z : ¬ (0 < x ∧ 0 < y ∧ x ≠ y) := fun ⟨h1, h2, _⟩ => by
      have := Nat.mul_pos h1 h2
      omega
    rw [R_nil z]
    exact Nat.le_refl _
  | succ n ih =>
    intro x y h
    by_cases c : 0 < x ∧ 0 < y ∧ x ≠ y
    · by_cases c2 : x > y
      · rw [R_x c.2.1 c2, List.length_cons]
        have d := dm_lt c.2.1 c2
        have e : (x - 1) / y * y + (x - 1) % y = x - 1 := by rw [Nat.mul_comm]; exact Nat.div_add_mod _ _
        have m : (x - 1) % y < y := Nat.mod_lt _ c.2.1
        have p : 0 < (x - 1) / y := Nat.div_pos (by omega) c.2.1
        have p2 : y ≤ (x - 1) / y * y := Nat.le_mul_of_pos_left _ p
        have half : 2 * (x - (x - 1) / y * y) ≤ x := by omega
        have q : 2 * ((x - (x - 1) / y * y) * y) ≤ x * y := by
          rw [← Nat.mul_assoc]
          exact Nat.mul_le_mul_right _ half
        have := ih (x - (x - 1) / y * y) y (by rw [Nat.pow_succ] at h; omega)
        omega
      · have c3 : y > x := by omega
        rw [R_y c.1 c3, List.length_cons]
        have d := dm_lt c.1 c3
        have e : (y - 1) / x * x + (y - 1) % x = y - 1 := by rw [Nat.mul_comm]; exact Nat.div_add_mod _ _
        have m : (y - 1) % x < x := Nat.mod_lt _ c.1
        have p : 0 < (y - 1) / x := Nat.div_pos (by omega) c.1
        have p2 : x ≤ (y - 1) / x * x := Nat.le_mul_of_pos_left _ p
        have half : 2 * (y - (y - 1) / x * x) ≤ y := by omega
        have q : 2 * (x * (y - (y - 1) / x * x)) ≤ x * y := by
          rw [show 2 * (x * (y - (y - 1) / x * x)) = x * (2 * (y - (y - 1) / x * x)) by rw [← Nat.mul_assoc, ← Nat.mul_assoc, Nat.mul_comm 2 x]]
          exact Nat.mul_le_mul_left _ half
        have := ih x (y - (y - 1) / x * x) (by rw [Nat.pow_succ] at h; omega)
        omega
    · rw [R_nil c]
      exact Nat.zero_le _
theorem R_len' {x y : Nat} (h : okP x y) : (R x y).length ≤ 8000 := by
  refine R_len 8000 x y ?_
  by_cases hy : 0 < y
  · have e : (2 : Nat) ^ 8000 = 2 ^ 4000 * 2 ^ 4000 := (Nat.pow_add 2 4000 4000)
    rw [e]
    exact Nat.mul_lt_mul'' h.2.1 h.2.2
  · have : y = 0 := by omega
    rw [this, Nat.mul_zero]
    exact Nat.pow_pos (by decide)
end Bx
namespace Bx
open PySem PySem.Spec PyProof.Rows L2
theorem noL_runD (r : Bool × Nat) : noL (runD r) = true := rfl
theorem PairAt.sameT {K : PySem.W.Frag} {H H' : Hp} {v : V} {x y : Nat} (h : PairAt K H v x y) (e : SameT H H') : PairAt K H' v x y := by
  obtain ⟨a, e1, h⟩ := h
  exact ⟨a, e1, e.seqT h⟩
theorem nat_abs {x n : Nat} (h : x < 2 ^ n) : ((x : Int)).natAbs < 2 ^ n := by rw [Int.natAbs_natCast]; exact h
theorem okDiv {i : Int} {y : Nat} (h0 : 0 < y) (h : y < 2 ^ 4000) : CDivW i (y : Int) := wide_div (by omega) (nat_abs h) (by decide) (by decide)
theorem okMul {x y : Nat} (h : x < 2 ^ 4000) (h2 : y < 2 ^ 4000) : CMulW (x : Int) (y : Int) := wide_mul (nat_abs h) (nat_abs h2) (by decide) (by decide) (by decide)
end Bx
namespace Bx
open PySem PySem.Spec PyProof.Rows L2
theorem sum_casts : ∀ l : List (Bool × Nat), ((l.map fun r => ((r.2 : Nat) : Int)).sum) = (((l.map (·.2)).sum : Nat) : Int)
  | [] => rfl
  | r :: l => by
    rw [List.map_cons, List.sum_cons, List.map_cons, List.sum_cons, sum_casts l, Int.natCast_add]
theorem sumR (x y : Nat) : ((R x y).map fun r => ((r.2 : Nat) : Int)).sum = (((L x y).length : Nat) : Int) := by rw [sum_casts, ← spell_len, spell_R]
theorem okP_small {x y : Nat} (h : ¬ (x = 0 ∧ y = 0)) (hx : x ≤ 1000000) (hy : y ≤ 1000000) : okP x y := by
  have e : 1000000 < 2 ^ 4000 := Nat.lt_of_lt_of_le (by decide : 1000000 < 2 ^ 20) (Nat.pow_le_pow_right (by decide) (by decide))
  exact ⟨h, Nat.lt_of_le_of_lt hx e, Nat.lt_of_le_of_lt hy e⟩
/-- a run of a list of runs -/
theorem run_get {K : PySem.W.Frag} {H : Hp} {us : List V} {l : List (Bool × Nat)} {i : Nat} {u : V} (g : DpAll K H us (l.map runD)) (hu : us[i]? = some u) :
    ∃ (c : Bool) (n : Nat) (p : Addr), l[i]? = some (c, n) ∧ u = .ref p ∧ SqT K H p [.str (letS c), .int (n : Int)] := by
  obtain ⟨d, hd, du⟩ := DpAll.get g hu
  obtain ⟨⟨c, n⟩, hr, rfl⟩ : ∃ r, l[i]? = some r ∧ runD r = d := by
    rw [List.getElem?_map] at hd
    cases q : l[i]? with
    | none => rw [q] at hd; cases hd
    | some r => rw [q] at hd; exact ⟨r, rfl, Option.some.inj hd⟩
  obtain ⟨p, a1, a2, rfl, hp, e1, e3⟩ := Dp.pair du
  cases Dp.str' e1
  cases Dp.int' e3
  exact ⟨c, n, p, hr, rfl, hp⟩
end Bx
namespace Bx
open PySem PySem.Spec PyProof.Rows L2
theorem runsD_depth (l : List (Bool × Nat)) : (runsD l).depth ≤ 2 := by
  show PyData.depthAll (l.map runD) + 1 ≤ 2
  have := depthAll_map (f := runD) (n := 1) (fun _ => Nat.le_refl _) l
  omega
theorem runsD_small {x y : Nat} (h : okP x y) : smallD (runsD (R x y)) = true := by
  refine smallL ?_ (smallDs_map (fun _ => rfl) _)
  have := R_len' h
  rw [List.length_map]
  omega
theorem Dp_runs {K : PySem.W.Frag} {H : Hp} {f : Addr} {us : List V} {l : List (Bool × Nat)} (h : SqL K H f us) (g : DpAll K H us (l.map runD)) : Dp K H (.ref f) (runsD l) := .lst h g
theorem letS_inj {a b : Bool} (h : a ≠ b) : decide (V.str (letS a) = V.str (letS b)) = false := by
  cases a <;> cases b
  · exact absurd rfl h
  · decide +kernel
  · decide +kernel
  · exact absurd rfl h
end Bx

-- needs pairs
namespace Bx
open PySem PySem.Spec PyProof.Rows L2
/-- the letters as a text -/
def sgn (l : List Bool) : Str := ⟨(l.map fun b => if b then 88 else 89).toArray⟩
theorem sgn_nil : sgn [] = ("" : Str) := by decide +kernel
theorem sgn_x (l : List Bool) : sgn l ++ ("X" : Str) = sgn (l ++ [true]) := by
  have e : ("X" : Str) = ⟨#[88]⟩ := by decide +kernel
  rw [e]
  show Str.append _ _ = _
  unfold Str.append sgn
  simp
theorem sgn_y (l : List Bool) : sgn l ++ ("Y" : Str) = sgn (l ++ [false]) := by
  have e : ("Y" : Str) = ⟨#[89]⟩ := by decide +kernel
  rw [e]
  show Str.append _ _ = _
  unfold Str.append sgn
  simp
theorem sgn_len (l : List Bool) : (sgn l).length = l.length := by
  show (List.toArray _).size = _
  simp
end Bx

-- needs lists
/-! the law's bag of draws -/
namespace Bx
open PySem PySem.Spec PyProof.Rows L2
structure Bag (H : Hp) (b : Addr) : Prop where
  ex : ∃ (c : Addr) (xs : List Int) (i hold seed : Int), H b = some (.lst [.ref c, .int i, .int hold, .int seed]) ∧ H c = some (.lst (xs.map V.int)) ∧ b ≠ c ∧ xs.length ≤ 63 ∧ 0 ≤ i ∧ 0 ≤ hold ∧ 0 ≤ seed ∧ seed < 2147483647
theorem Bag.keep {H H' : Hp} {b : Addr} (B : Bag H b) (e : Same H H') : Bag H' b := by
  obtain ⟨c, xs, i, hold, seed, h1, h2, r⟩ := B.ex
  exact ⟨c, xs, i, hold, seed, e _ _ h1, e _ _ h2, r⟩
theorem Bag.at_ {H : Hp} {b : Addr} (B : Bag H b) : ∃ o, H b = some o := by
  obtain ⟨c, xs, i, hold, seed, h1, _⟩ := B.ex
  exact ⟨_, h1⟩
theorem Bag.ne {H : Hp} {b p : Addr} (B : Bag H b) (h : H p = none) : p ≠ b := fun e => by
  obtain ⟨o, q⟩ := B.at_
  rw [← e, h] at q
  cases q
/-- a tuple is not the bag -/
theorem Bag.neT {H : Hp} {b p : Addr} {xs : List V} (B : Bag H b) (h : H p = some (.tup xs)) : p ≠ b := fun e => by
  obtain ⟨c, ys, i, hold, seed, h1, _⟩ := B.ex
  rw [e, h1] at h
  cases h
theorem emod_bd (x : Int) {m : Int} (h : 0 < m) : 0 ≤ x % m ∧ x % m < m := ⟨Int.emod_nonneg x (by omega), Int.emod_lt_of_pos x h⟩
end Bx
namespace Bx
open PySem PySem.Spec PyProof.Rows L2
/-- a tuple stays behind a draw -/
theorem Bag.seqT {K : PySem.W.Frag} {H H' : Hp} {b a : Addr} {xs : List V} (B : Bag H b) (e : Kp b H H') (h : SqT K H a xs) : SqT K H' a xs := by
  have nb : ∀ o, H a = some o → (∀ ys, o ≠ .lst ys) → a ≠ b := fun o q n z => by
    obtain ⟨c, ys, i, hold, seed, h1, _⟩ := B.ex
    rw [z, h1] at q
    exact n _ (Option.some.inj q).symm
  rcases h with (h | ⟨o, h⟩) | h
  · exact .inl (.inl (e _ _ (nb _ h fun _ z => by cases z) h))
  · exact .inl (.inr ⟨o, e _ _ (nb _ h fun _ z => by cases z) h⟩)
  · exact .inr h
end Bx
-- needs deep
namespace Bx
open PySem PySem.Spec PyProof.Rows L2
theorem Bag.sameT {H H' : Hp} {b : Addr} (B : Bag H b) (e : Kp b H H') : SameT H H' := fun a o q n => by
  refine e a o (fun z => ?_) q
  obtain ⟨c, ys, i, hold, seed, h1, _⟩ := B.ex
  rw [z, h1] at q
  exact n _ (Option.some.inj q).symm
end Bx

-- needs lists
namespace Bx
open PySem PySem.Spec PyProof.Rows L2
/-- a text n times -/
def rep (z : Str) (n : Nat) : Str := ⟨((List.replicate n z.cps.toList).flatten).toArray⟩
theorem foldl_app : ∀ (n : Nat) (a acc : Array Nat), (List.replicate n a).foldl (· ++ ·) acc = acc ++ ((List.replicate n a.toList).flatten).toArray
  | 0, _, acc => by simp
  | n + 1, a, acc => by
    rw [List.replicate_succ, List.foldl_cons, foldl_app n a, List.replicate_succ, List.flatten_cons]
    apply Array.ext'
    simp
theorem rep_mul (z : Str) (n : Int) : PySem.Txt.mul z n = rep z n.toNat := by
  unfold PySem.Txt.mul
  by_cases h : n < 1
  · rw [if_pos h, show n.toNat = 0 by omega]
    rfl
  · rw [if_neg h]
    by_cases h2 : (n == 1 || z.length == 0) = true
    · rw [if_pos h2]
      rcases Bool.or_eq_true_iff.mp h2 with e | e
      · have e1 : n = 1 := eq_of_beq e
        subst e1
        unfold rep
        simp
      · have e1 : z.length = 0 := eq_of_beq e
        have e2 : z.cps = #[] := Array.eq_empty_of_size_eq_zero e1
        have e3 : ∀ m : Nat, (List.replicate m ([] : List Nat)).flatten = [] := fun m => by induction m with
          | zero => rfl
          | succ m ih => rw [List.replicate_succ, List.flatten_cons, ih]; rfl
        unfold rep
        rw [e2]
        show z = ⟨((List.replicate n.toNat ([] : List Nat)).flatten).toArray⟩
        rw [e3]
        cases z
        simp at e2
        rw [e2]
    · rw [if_neg h2]
      unfold rep
      rw [foldl_app]
      simp
theorem op_mul_str {X : Cx} : OpR X (binaryOp .Mult) (fun x y H Q => ∃ (z : Str) (n : Int), x = .str z ∧ y = .int n ∧ 0 ≤ n ∧ n ≤ 1000000 ∧ z.length * n.toNat ≤ 1000000 ∧ Q (.str (rep z n.toNat)) H) := by
  intro pins s σ H x y v u Q I rx ry h
  obtain ⟨z, n, rfl, rfl, h0, h1, h2, q⟩ := h
  obtain ⟨t, rfl⟩ := rx
  obtain ⟨t', rfl⟩ := ry
  refine PySem.SB.mul ⟨?_, fun c _ => ?_, fun c _ => ?_⟩ fun t2 k => ⟨.str (rep z n.toNat), H, I.tok _, ⟨t2, by rw [rep_mul]⟩, q⟩
  · rw [decide_eq_false (by omega), decide_eq_false (by omega)]
    rfl
  · have e : (z.length : Int) * n ≤ 2 ^ 63 - 1 := by
      have e1 : ((z.length * n.toNat : Nat) : Int) = (z.length : Int) * n := by
        rw [Int.natCast_mul, show ((n.toNat : Nat) : Int) = n by omega]
      have e2 : ((z.length * n.toNat : Nat) : Int) ≤ 1000000 := by omega
      omega
    have := (Int.le_ediv_iff_mul_le (by omega : (0 : Int) < n)).mpr e
    omega
  · unfold Builtin.Str.tooLong
    exact decide_eq_false (by rw [sizeLine_eq]; omega)
end Bx

-- needs signs strmul
namespace Bx
open PySem PySem.Spec PyProof.Rows L2
theorem dm_rest {x y : Nat} (h : 0 < y) (h2 : x > y) : x - (x - 1) / y * y ≤ y := by
  have e : (x - 1) / y * y + (x - 1) % y = x - 1 := by rw [Nat.mul_comm]; exact Nat.div_add_mod _ _
  have m : (x - 1) % y < y := Nat.mod_lt _ h
  omega
/-- the first run's letter -/
theorem R_head {x y : Nat} {r : Bool × Nat} (h : (R x y)[0]? = some r) : 0 < x ∧ 0 < y ∧ x ≠ y ∧ (r.1 = true ↔ x > y) := by
  by_cases c : 0 < x ∧ 0 < y ∧ x ≠ y
  · refine ⟨c.1, c.2.1, c.2.2, ?_⟩
    by_cases c2 : x > y
    · rw [R_x c.2.1 c2] at h
      cases h
      exact ⟨fun _ => c2, fun _ => rfl⟩
    · rw [R_y c.1 (by omega)] at h
      cases h
      exact ⟨fun q => (by cases q), fun q => absurd q c2⟩
  · rw [R_nil c] at h
    cases h
theorem R_alt (x y : Nat) : ∀ (i : Nat) (r s : Bool × Nat), (R x y)[i]? = some r → (R x y)[i + 1]? = some s → r.1 ≠ s.1 := by
  intro i r s h1 h2
  by_cases c : 0 < x ∧ 0 < y ∧ x ≠ y
  · by_cases c2 : x > y
    · have d := dm_lt c.2.1 c2
      rw [R_x c.2.1 c2] at h1 h2
      rw [List.getElem?_cons_succ] at h2
      cases i with
      | zero =>
        cases h1
        have q := R_head h2
        have q2 := dm_rest c.2.1 c2
        intro e
        have := q.2.2.2.mp e.symm
        omega
      | succ i =>
        rw [List.getElem?_cons_succ] at h1
        exact R_alt _ y i r s h1 h2
    · have c3 : y > x := by omega
      have d := dm_lt c.1 c3
      rw [R_y c.1 c3] at h1 h2
      rw [List.getElem?_cons_succ] at h2
      cases i with
      | zero =>
        cases h1
        have q := R_head h2
        have q2 := dm_rest c.1 c3
        intro e
        have e2 : s.1 = false := e.symm
        have : ¬ (x > y - (y - 1) / x * x) := fun z => by
          have := q.2.2.2.mpr z
          rw [e2] at this
          cases this
        omega
      | succ i =>
        rw [List.getElem?_cons_succ] at h1
        exact R_alt x _ i r s h1 h2
  · rw [R_nil c] at h1
    cases h1
termination_by x + y
/-- texts one behind another -/
theorem glue_fold : ∀ (ps : List Str) (acc : Array Nat), ps.foldl (fun acc p => acc ++ (#[] : Array Nat) ++ p.cps) acc = acc ++ ((ps.map fun p => p.cps.toList).flatten).toArray
  | [], acc => by simp
  | p :: ps, acc => by
    rw [List.foldl_cons, glue_fold ps, List.map_cons, List.flatten_cons]
    apply Array.ext'
    simp
theorem join_empty (ps : List Str) : PySem.Txt.join (⟨#[]⟩ : Str) ps = ⟨((ps.map fun p => p.cps.toList).flatten).toArray⟩ := by
  show (⟨(ps.drop 1).foldl (fun acc p => acc ++ (#[] : Array Nat) ++ p.cps) (ps.headD Str.empty).cps⟩ : Str) = _
  rw [glue_fold]
  cases ps with
  | nil => rfl
  | cons p ps =>
    congr 1
    apply Array.ext'
    simp
theorem rep_let (c : Bool) (n : Nat) : (rep (letS c) n).cps.toList = (List.replicate n c).map fun b => if b then 88 else 89 := by
  have e : (letS c).cps.toList = [if c then 88 else 89] := by
    cases c
    · decide +kernel
    · decide +kernel
  unfold rep
  rw [e]
  show (List.replicate n [if c = true then 88 else 89]).flatten = _
  induction n with
  | zero => rfl
  | succ n ih => rw [List.replicate_succ, List.flatten_cons, ih, List.replicate_succ]; rfl
theorem join_runs (l : List (Bool × Nat)) : PySem.Txt.join (⟨#[]⟩ : Str) (l.map fun r => rep (letS r.1) r.2) = sgn (spell l) := by
  rw [join_empty]
  show _ = (⟨_⟩ : Str)
  congr 2
  induction l with
  | nil => rfl
  | cons r l ih =>
    rw [List.map_cons, List.map_cons, List.flatten_cons, ih, rep_let]
    show _ = (List.replicate r.2 r.1 ++ spell l).map _
    rw [List.map_append]
theorem rep_len (c : Bool) (n : Nat) : (rep (letS c) n).length = n := by
  have e := congrArg List.length (rep_let c n)
  rw [List.length_map, List.length_replicate] at e
  exact e
theorem rep_lens (l : List (Bool × Nat)) : ((l.map fun r => rep (letS r.1) r.2).map (·.length)).sum = (spell l).length := by
  rw [spell_len, List.map_map]
  congr 1
  apply List.map_congr_left
  intro r _
  exact rep_len r.1 r.2
theorem lets_len (c : Bool) : (letS c).length = 1 := by
  cases c
  · decide +kernel
  · decide +kernel
/-- one run's count is among the letters -/
theorem run_le {l : List (Bool × Nat)} {i : Nat} {r : Bool × Nat} (h : l[i]? = some r) : r.2 ≤ (spell l).length := by
  rw [spell_len]
  have := List.mem_of_getElem? h
  induction l generalizing i with
  | nil => cases this
  | cons a l ih =>
    rw [List.map_cons, List.sum_cons]
    rcases List.mem_cons.mp this with e | e
    · rw [e]; omega
    · obtain ⟨j, hj⟩ := List.getElem?_of_mem e
      have := ih hj e
      omega
end Bx

namespace Lw
open PySem PySem.Spec PyProof.Rows L2 Bx
def top (i : Nat) : Stmt := PySem.Challenge.pw_addpath_k02_runs_of_paths.main.body.getD i (.Pass ⟨0, 0, 0, 0⟩)
abbrev s_is_number : Stmt := top 4
abbrev s_is_pair : Stmt := top 6
abbrev s_need_pair : Stmt := top 7
abbrev s_runs : Stmt := top 8
abbrev s__law_same : Stmt := top 13
abbrev s__law_runs : Stmt := top 15
abbrev s__law_letters : Stmt := top 16
abbrev s__law_pull : Stmt := top 11
abbrev s__law_of : Stmt := top 12
abbrev s__law_far_pair : Stmt := top 17
abbrev s__law_pair : Stmt := top 14
abbrev s__law_bag : Stmt := top 10
abbrev s_law : Stmt := top 18
def d_is_number : He.DefD := ⟨("is_number", none), "is_number", "is_number", defArgs s_is_number, defBody s_is_number, defScope s_is_number, [], []⟩
def d_is_pair : He.DefD := ⟨("is_pair", none), "is_pair", "is_pair", defArgs s_is_pair, defBody s_is_pair, defScope s_is_pair, [], []⟩
def d_need_pair : He.DefD := ⟨("need_pair", none), "need_pair", "need_pair", defArgs s_need_pair, defBody s_need_pair, defScope s_need_pair, [], []⟩
def d_runs : He.DefD := ⟨("runs", none), "runs", "runs", defArgs s_runs, defBody s_runs, defScope s_runs, [], []⟩
def d__law_same : He.DefD := ⟨("_law_same", none), "_law_same", "_law_same", defArgs s__law_same, defBody s__law_same, defScope s__law_same, [], []⟩
def d__law_runs : He.DefD := ⟨("_law_runs", none), "_law_runs", "_law_runs", defArgs s__law_runs, defBody s__law_runs, defScope s__law_runs, [], []⟩
def d__law_letters : He.DefD := ⟨("_law_letters", none), "_law_letters", "_law_letters", defArgs s__law_letters, defBody s__law_letters, defScope s__law_letters, [], []⟩
def d__law_pull : He.DefD := ⟨("_law_pull", none), "_law_pull", "_law_pull", defArgs s__law_pull, defBody s__law_pull, defScope s__law_pull, [], []⟩
def d__law_of : He.DefD := ⟨("_law_of", none), "_law_of", "_law_of", defArgs s__law_of, defBody s__law_of, defScope s__law_of, [], []⟩
def d__law_far_pair : He.DefD := ⟨("_law_far_pair", none), "_law_far_pair", "_law_far_pair", defArgs s__law_far_pair, defBody s__law_far_pair, defScope s__law_far_pair, [], []⟩
def d__law_pair : He.DefD := ⟨("_law_pair", none), "_law_pair", "_law_pair", defArgs s__law_pair, defBody s__law_pair, defScope s__law_pair, [], []⟩
def d__law_bag : He.DefD := ⟨("_law_bag", none), "_law_bag", "_law_bag", defArgs s__law_bag, defBody s__law_bag, defScope s__law_bag, [], []⟩
def d_law : He.DefD := ⟨("law", none), "law", "law", defArgs s_law, defBody s_law, defScope s_law, [], []⟩
def fnl : List He.DefD := [d_is_number, d_is_pair, d_need_pair, d_runs, d__law_same, d__law_runs, d__law_letters, d__law_pull, d__law_of, d__law_far_pair, d__law_pair, d__law_bag, d_law]
def glos : List Str := ["is_number", "is_pair", "need_pair", "runs", "_law_same", "_law_runs", "_law_letters", "_law_pull", "_law_of", "_law_far_pair", "_law_pair", "_law_bag", "law"]
def frees : List Str := ["isinstance", "bool", "int", "len", "tuple", "str", "list", "all", "zip", "range", "any"]
def fal : List He.Fa := glos.map .glo ++ frees.map .free
abbrev En := Env fal fnl
theorem in_glos {x : Str} (h : x ∈ glos) : He.Fa.glo x ∈ fal := (List.mem_append_left _ (List.mem_map_of_mem h))
theorem in_frees {x : Str} (h : x ∈ frees) : He.Fa.free x ∈ fal := (List.mem_append_right _ (List.mem_map_of_mem h))
theorem En.gl {K : PySem.W.Frag} {mg : Str → Option Value} (E : En K mg) (x : Str) (h : x ∈ glos := by decide +kernel) : mg x = some (.ref (He.ga K x)) := Env.glo E x (in_glos h)
theorem En.fr {K : PySem.W.Frag} {mg : Str → Option Value} (E : En K mg) (x : Str) (h : x ∈ frees := by decide +kernel) : mg x = none := Env.free E x (in_frees h)
section
variable {P : Program} {w : World} {K : PySem.W.Frag} {mg : Str → Option Value} {base : Heap}
/-! ### is_number -/
/-- by the value's type alone -/
def sp_is_number (K : PySem.W.Frag) : Sp := fun vs H Q _ => ∃ (v : V) (t : String) (b1 b2 : Bool), vs = [v] ∧ TyX K H v (.type t) ∧ kitB t "int" = some b1 ∧ kitB t "bool" = some b2 ∧ Q (.bl (b1 && !b2)) H
theorem sp_number_int {K : PySem.W.Frag} {H : Hp} {Q : VK} {E : XK} {i : Int} (q : Q (.bl true) H) : sp_is_number K [.int i] H Q E := ⟨_, "int", true, false, rfl, .base (.int i), by decide +kernel, by decide +kernel, q⟩

theorem sc_is_number : FnScope ["value"] ["value"] (defScope s_is_number) := ⟨rfl, rfl, rfl, by decide +kernel, rfl, by decide +kernel, by decide +kernel⟩
theorem ok_is_number (E : En K mg) : Good P w K mg base CX0 1 "is_number" ["value"] (sp_is_number K) := by
  obtain ⟨fd, F⟩ := E.says.def_ 0 (d := d_is_number) rfl
  refine ⟨fd, ?_, F.bindsN fun _ _ _ _ _ _ us hl => match us, hl with | [_], _ => rfl, F.kp, E.gl "is_number"⟩
  refine F.ok sc_is_number (fun vs H Q E' h => ?_) (fun cdv A outer s H vs Q E' hr h => ?_)
  · obtain ⟨v, t, b1, b2, rfl, _⟩ := h; rfl
  · have hu64 := hu64_of hr
    refine ⟨_, PSs.nox (pss_one (ps_ret (pe_and (pe_callB call_isi (by rfl) (E.fr "isinstance") (by decide +kernel) (pa_cons (pv 0) (pa_cons (pe_bltn (v := .ty "int") (by rfl) (E.fr "int") (by decide +kernel) rfl) pa_nil))) (pe_one (pe_not (pe_callB call_isi (by rfl) (E.fr "isinstance") (by decide +kernel) (pa_cons (pv 0) (pa_cons (pe_bltn (v := .ty "bool") (by rfl) (E.fr "bool") (by decide +kernel) rfl) pa_nil)))))))), ?_⟩
    obtain ⟨v, t, b1, b2, rfl, T, e1, e2, k⟩ := h
    refine ⟨_, rfl, _, _, _, _, _, rfl, .ty _, T, kit_ty e1, _, rfl, ?_⟩
    cases b1 with
    | false => exact ite_f rfl k
    | true => exact ite_t rfl ⟨_, rfl, _, _, _, _, _, rfl, .ty _, T, kit_ty e2, _, rfl, k⟩

/-! ### is_pair -/
/-- a pair of numbers from 0 on that are not both 0 -/
def sp_is_pair (K : PySem.W.Frag) : Sp := fun vs H Q _ => ∃ (v : V) (x y : Nat), vs = [v] ∧ PairAt K H v x y ∧ ¬ (x = 0 ∧ y = 0) ∧ ∀ H', Same H H' → Q (.bl true) H'

theorem sc_is_pair : FnScope ["value"] ["value"] (defScope s_is_pair) := ⟨rfl, rfl, rfl, by decide +kernel, rfl, by decide +kernel, by decide +kernel⟩
theorem ok_is_pair (E : En K mg) (G_is_number : Good P w K mg base CX0 1 "is_number" ["value"] (sp_is_number K)) : Good P w K mg base CX0 2 "is_pair" ["value"] (sp_is_pair K) := by
  obtain ⟨fd, F⟩ := E.says.def_ 1 (d := d_is_pair) rfl
  refine ⟨fd, ?_, F.bindsN fun _ _ _ _ _ _ us hl => match us, hl with | [_], _ => rfl, F.kp, E.gl "is_pair"⟩
  refine F.ok sc_is_pair (fun vs H Q E' h => ?_) (fun cdv A outer s H vs Q E' hr h => ?_)
  · obtain ⟨v, x, y, rfl, _⟩ := h; rfl
  · have hu64 := hu64_of hr
    refine ⟨_, PSs.nox (pss_cons (ps_if (PW.pt (pw_or (pt_not (pt_val (pe_callB call_isi (by rfl) (E.fr "isinstance") (by decide +kernel) (pa_cons (pv 0) (pa_cons (pe_bltn (v := .ty "tuple") (by rfl) (E.fr "tuple") (by decide +kernel) rfl) pa_nil))))) (pw_or (pt_cmpR op_ne (pe_callB call_len_seq (by rfl) (E.fr "len") (by decide +kernel) (pa_cons (pv 0) pa_nil)) pe_int (nomark _)) (pw_or (pt_not (pt_val (pe_G G_is_number (hr.mono (by decide)) rfl pass0 (pa_cons (pe_ix ix_tup (pv 0) pe_int (fun _ _ => rfl)) pa_nil)))) (pw_or1 (pt_not (pt_val (pe_G G_is_number (hr.mono (by decide)) rfl pass0 (pa_cons (pe_ix ix_tup (pv 0) pe_int (fun _ _ => rfl)) pa_nil)))))))))
        (pss_one (ps_ret pe_bl))
        pss_nil)
      (pss_one (ps_ret (pe_and (pe_cmpR op_ge (pe_ix ix_tup (pv 0) pe_int (fun _ _ => rfl)) pe_int (nomark _)) (pe_and (pe_cmpR op_ge (pe_ix ix_tup (pv 0) pe_int (fun _ _ => rfl)) pe_int (nomark _)) (pe_one (pe_cmpR (op_neD hu64) (pv 0) (pe_tup (pa_cons pe_int (pa_cons pe_int pa_nil))) (nomark _)))))))), ?_⟩
    obtain ⟨v, x, y, rfl, ⟨a, rfl, hS⟩, n0, k⟩ := h
    have hT := tyT hS
    -- not a tuple or ..
    refine ⟨_, rfl, _, _, _, _, true, rfl, .ty _, hT, kit_ty (by decide +kernel), _, rfl, ?_⟩
    refine ite_f rfl ⟨_, rfl, a, _, rfl, .inr hS, rfl, _, rfl, ?_⟩
    refine ite_f rfl ⟨_, rfl, a, _, _, _, rfl, rfl, hS, at2_0 _ _, _, "int", true, false, rfl, .base (.int _), by decide +kernel, by decide +kernel, _, rfl, ?_⟩
    refine ite_f rfl ⟨_, rfl, a, _, _, _, rfl, rfl, hS, at2_1 _ _, _, "int", true, false, rfl, .base (.int _), by decide +kernel, by decide +kernel, _, rfl, ?_⟩
    refine ite_f rfl ?_
    -- value[0] >= 0 and value[1] >= 0 and value != (0, 0)
    refine ⟨_, rfl, a, _, _, _, rfl, rfl, hS, at2_0 _ _, _, _, rfl, rfl, _, rfl, ?_⟩
    refine ite_t (decide_eq_true (by show (0 : Int) ≤ (x : Int); omega)) ⟨_, rfl, a, _, _, _, rfl, rfl, hS, at2_1 _ _, _, _, rfl, rfl, _, rfl, ?_⟩
    refine ite_t (decide_eq_true (by show (0 : Int) ≤ (y : Int); omega)) ⟨_, rfl, (by show 2 ≤ sizeLine; decide), fun p hp => ?_⟩
    have e := same_new (o := .tup [.int 0, .int 0]) hp
    have ne : PyData.eqv (.tuple [.int (x : Int), .int (y : Int)]) (.tuple [.int 0, .int 0]) = false := by
      simp [PyData.eqv, PyData.eqvAll]
      omega
    refine ⟨.tuple [.int (x : Int), .int (y : Int)], .tuple [.int 0, .int 0], .tup (seqT e hS) (.cons (.int _) (.cons (.int _) .nil)), .tup (SqT.of upd_same) (.cons (.int _) (.cons (.int _) .nil)), by rfl, by rfl, ?_⟩
    show Q (.bl (!PyData.eqv _ _)) _
    rw [ne]
    exact k _ e

/-! ### need_pair -/
def sp_need_pair (K : PySem.W.Frag) : Sp := fun vs H Q _ => ∃ (v : V) (x y : Nat), vs = [v] ∧ PairAt K H v x y ∧ ¬ (x = 0 ∧ y = 0) ∧ ∀ H', Same H H' → Q .non H'

theorem sc_need_pair : FnScope ["value"] ["value"] (defScope s_need_pair) := ⟨rfl, rfl, rfl, by decide +kernel, rfl, by decide +kernel, by decide +kernel⟩
theorem ok_need_pair (E : En K mg) (G_is_pair : Good P w K mg base CX0 2 "is_pair" ["value"] (sp_is_pair K)) : Good P w K mg base CX0 3 "need_pair" ["value"] (sp_need_pair K) := by
  obtain ⟨fd, F⟩ := E.says.def_ 2 (d := d_need_pair) rfl
  refine ⟨fd, ?_, F.bindsN fun _ _ _ _ _ _ us hl => match us, hl with | [_], _ => rfl, F.kp, E.gl "need_pair"⟩
  refine F.ok sc_need_pair (fun vs H Q E' h => ?_) (fun cdv A outer s H vs Q E' hr h => ?_)
  · obtain ⟨v, x, y, rfl, _⟩ := h; rfl
  · have hu64 := hu64_of hr
    refine ⟨_, PSs.nox (pss_one (ps_if (pt_not (pt_val (pe_G G_is_pair (hr.mono (by decide)) rfl pass0 (pa_cons (pv 0) pa_nil))))
        (pss_one ps_never)
        pss_nil)), ?_⟩
    obtain ⟨v, x, y, rfl, hP, n0, k⟩ := h
    refine ⟨_, rfl, v, x, y, rfl, hP, n0, fun H' e => ⟨true, rfl, ?_⟩⟩
    exact ite_f rfl (k H' e)

/-! ### runs -/
def sp_runs (K : PySem.W.Frag) : Sp := fun vs H Q _ => ∃ (v : V) (x y : Nat), vs = [v] ∧ PairAt K H v x y ∧ okP x y ∧
  ∀ (f : Addr) (us : List V) (H' : Hp), H f = none → Same H H' → H' f = some (.lst us) → DpAll K H' us ((R x y).map runD) → Q (.ref f) H'

theorem sc_runs : FnScope ["pair", "x", "y", "found", "count"] ["pair"] (defScope s_runs) := ⟨rfl, rfl, rfl, by decide +kernel, rfl, by decide +kernel, by decide +kernel⟩
theorem ok_runs (E : En K mg) (G_need_pair : Good P w K mg base CX0 3 "need_pair" ["value"] (sp_need_pair K)) : Good P w K mg base CX0 4 "runs" ["pair"] (sp_runs K) := by
  obtain ⟨fd, F⟩ := E.says.def_ 3 (d := d_runs) rfl
  refine ⟨fd, ?_, F.bindsN fun _ _ _ _ _ _ us hl => match us, hl with | [_], _ => rfl, F.kp, E.gl "runs"⟩
  refine F.ok sc_runs (fun vs H Q E' h => ?_) (fun cdv A outer s H vs Q E' hr h => ?_)
  · obtain ⟨v, x, y, rfl, _⟩ := h; rfl
  · have hu64 := hu64_of hr
    refine ⟨_, PSs.nox (pss_cons (ps_expr (pe_G G_need_pair (hr.mono (by decide)) rfl pass0 (pa_cons (pv 0) pa_nil)))
      (pss_cons (ps_asg (pv 0) (pg_tup rfl (pgs_cons (pg_name (i := 1) sc_runs.nd rfl (by first | exact Or.inl rfl | exact Or.inr rfl)) (pgs_cons (pg_name (i := 2) sc_runs.nd rfl (by first | exact Or.inl rfl | exact Or.inr rfl)) pgs_nil))))
      (pss_cons (ps_set (i := 3) sc_runs.nd rfl (by first | exact Or.inl rfl | exact Or.inr rfl) (pe_lst pa_nil))
      (pss_cons (ps_while PassesOwn.never (PW.pt (pw_and (pt_cmpR op_ne (pv 1) (pv 2) (nomark _)) (pw_and (pt_cmpR op_gt (pv 1) pe_int (nomark _)) (pw_and1 (pt_cmpR op_gt (pv 2) pe_int (nomark _))))))
        (pss_one (ps_if (pt_cmpR op_gt (pv 1) (pv 2) (nomark _))
        (pss_cons (ps_set (i := 4) sc_runs.nd rfl (by first | exact Or.inl rfl | exact Or.inr rfl) (pe_op op_fdivW (pe_op op_sub (pv 1) pe_int) (pv 2)))
      (pss_cons (ps_expr (pe_bm PySem.F.plainAttrs_list PySem.F.slot_list_append PySem.F.type_list_append mt_append (pv 3) (pa_cons (pe_tup (pa_cons pe_str (pa_cons (pv 4) pa_nil))) pa_nil)))
      (pss_one (ps_set (i := 1) sc_runs.nd rfl (by first | exact Or.inl rfl | exact Or.inr rfl) (pe_op op_sub (pv 1) (pe_op op_mulW (pv 4) (pv 2)))))))
        (pss_cons (ps_set (i := 4) sc_runs.nd rfl (by first | exact Or.inl rfl | exact Or.inr rfl) (pe_op op_fdivW (pe_op op_sub (pv 2) pe_int) (pv 1)))
      (pss_cons (ps_expr (pe_bm PySem.F.plainAttrs_list PySem.F.slot_list_append PySem.F.type_list_append mt_append (pv 3) (pa_cons (pe_tup (pa_cons pe_str (pa_cons (pv 4) pa_nil))) pa_nil)))
      (pss_one (ps_set (i := 2) sc_runs.nd rfl (by first | exact Or.inl rfl | exact Or.inr rfl) (pe_op op_sub (pv 2) (pe_op op_mulW (pv 4) (pv 1))))))))))
      (pss_one (ps_ret (pv 3))))))), ?_⟩
    obtain ⟨v, x, y, rfl, hP, ok, k⟩ := h
    refine ⟨_, rfl, v, x, y, rfl, hP, ok.1, fun H1 e1 => ?_⟩
    obtain ⟨a, rfl, hS⟩ := hP
    refine ⟨_, rfl, a, _, rfl, seqT e1 hS, rfl, _, _, rfl, _, _, rfl, rfl, (by show 0 ≤ sizeLine; decide), fun f hf => ?_⟩
    have hf0 : H f = none := Same.free e1 hf
    refine ⟨fun m σ H' => ∃ (i j : Nat) (acc : List (Bool × Nat)) (us : List V) (c : Option V), m = i + j ∧ σ = [some (.ref a), some (.int (i : Int)), some (.int (j : Int)), some (.ref f), c] ∧ acc ++ R i j = R x y ∧ i < 2 ^ 4000 ∧ j < 2 ^ 4000 ∧ Same H H' ∧ H' f = some (.lst us) ∧ DpAll K H' us (acc.map runD),
      ⟨x + y, x, y, [], [], none, rfl, rfl, rfl, ok.2.1, ok.2.2, same_mut e1 hf0, upd_same, .nil⟩, ?_⟩
    rintro m σ H' ⟨i, j, acc, us, c, rfl, rfl, hR, hi, hj, e, hF, hD⟩
    have fin : R i j = [] → Q (.ref f) H' := fun z => by
      rw [z, List.append_nil] at hR
      rw [hR] at hD
      exact k f us H' hf0 e hF hD
    have hlen : us.length < sizeLine := by
      have h1 := DpAll.length hD
      rw [List.length_map] at h1
      have h2 := R_len' ok
      rw [← hR, List.length_append] at h2
      exact szl (by omega)
    -- the turn's end: a run more
    have more : ∀ (b : Bool) (n i' j' : Nat) (p : Addr), H' p = none → i' + j' < i + j → R i j = (b, n) :: R i' j' → i' < 2 ^ 4000 → j' < 2 ^ 4000 → ∀ c' : Option V,
        ∃ m', m' < i + j ∧ ∃ (i j : Nat) (acc : List (Bool × Nat)) (us' : List V) (c : Option V), m' = i + j ∧ [some (V.ref a), some (.int (i' : Int)), some (.int (j' : Int)), some (.ref f), c'] = [some (.ref a), some (.int (i : Int)), some (.int (j : Int)), some (.ref f), c] ∧ acc ++ R i j = R x y ∧ i < 2 ^ 4000 ∧ j < 2 ^ 4000 ∧ Same H (upd (upd H' p (.tup [.str (letS b), .int (n : Int)])) f (.lst (us ++ [.ref p]))) ∧ (upd (upd H' p (.tup [.str (letS b), .int (n : Int)])) f (.lst (us ++ [.ref p]))) f = some (.lst us') ∧ DpAll K (upd (upd H' p (.tup [.str (letS b), .int (n : Int)])) f (.lst (us ++ [.ref p]))) us' (acc.map runD) := fun b n i' j' p hp hm hr h1 h2 c' => by
      have nf : f ≠ p := ne_of_none hF hp
      have hF2 : (upd H' p (.tup [.str (letS b), .int (n : Int)])) f = some (.lst us) := by rw [upd_ne nf]; exact hF
      have t1 : SameT H' (upd (upd H' p (.tup [.str (letS b), .int (n : Int)])) f (.lst (us ++ [.ref p]))) := (SameT.new hp).trans (.put hF2)
      refine ⟨i' + j', hm, i', j', acc ++ [(b, n)], us ++ [.ref p], c', rfl, rfl, ?_, h1, h2, same_mut (e.trans (same_new hp)) hf0, upd_same, ?_⟩
      · rw [List.append_assoc, ← hR, hr]
        rfl
      · rw [List.map_append]
        refine DpAll.append (Dp.sameTs t1 (noLs_map noL_runD acc) hD) (DpAll.one (.tup (SqT.of ?_) (.cons (.str _) (.cons (.int _) .nil))))
        rw [upd_ne nf.symm, upd_same]
    -- while x != y and x > 0 and y > 0
    refine ⟨_, rfl, _, rfl, rfl, _, rfl, ?_⟩
    by_cases c1 : i = j
    · refine ite_f (by rw [deq (by omega)]; rfl) (ite_f rfl ⟨_, rfl, fin (R_nil (by omega))⟩)
    refine ite_t (by rw [dne (by omega)]; rfl) ⟨_, rfl, _, _, rfl, rfl, _, rfl, ?_⟩
    by_cases c2 : 0 < i
    rotate_left
    · exact ite_f (decide_eq_false (by omega)) (ite_f rfl ⟨_, rfl, fin (R_nil (by omega))⟩)
    refine ite_t (decide_eq_true (by omega)) ⟨_, rfl, _, _, rfl, rfl, _, rfl, ?_⟩
    by_cases c3 : 0 < j
    rotate_left
    · exact ite_f (decide_eq_false (by omega)) ⟨_, rfl, fin (R_nil (by omega))⟩
    refine ite_t (decide_eq_true (by omega)) ⟨fun σ' H'' => ∃ m', m' < i + j ∧ ∃ (i j : Nat) (acc : List (Bool × Nat)) (us : List V) (c : Option V), m' = i + j ∧ σ' = [some (.ref a), some (.int (i : Int)), some (.int (j : Int)), some (.ref f), c] ∧ acc ++ R i j = R x y ∧ i < 2 ^ 4000 ∧ j < 2 ^ 4000 ∧ Same H H'' ∧ H'' f = some (.lst us) ∧ DpAll K H'' us (acc.map runD), fun _ _ q => q, ?_⟩
    -- if x > y
    refine ⟨_, rfl, _, rfl, _, _, rfl, rfl, _, rfl, ?_⟩
    refine ite2 (fun c4 => ?_) (fun c4 => ?_)
    · have c5 : i > j := by
        have q : (j : Int) < (i : Int) := of_decide_eq_true c4
        omega
      have d := dm_lt c3 c5
      have hq : (i - 1) / j < 2 ^ 4000 := Nat.lt_of_le_of_lt (Nat.le_trans (Nat.div_le_self _ _) (Nat.sub_le _ _)) hi
      refine ⟨_, rfl, _, _, rfl, rfl, _, rfl, _, _, rfl, rfl, okDiv c3 hj, ?_⟩
      dsimp only; rw [cast_div c2]
      refine ⟨_, rfl, .inl ⟨rfl, _, SqL.of hF⟩, _, rfl, (by show 2 ≤ sizeLine; decide), fun p hp => ?_⟩
      have nf : f ≠ p := ne_of_none hF hp
      refine ⟨f, us, .ref p, rfl, rfl, (by rw [upd_ne nf]; exact hF), hlen, ?_⟩
      refine ⟨_, rfl, _, rfl, _, rfl, _, _, rfl, rfl, okMul hq hj, _, _, rfl, rfl, ?_⟩
      dsimp only; rw [cast_sub]
      exact more true ((i - 1) / j) _ j p hp (by omega) (R_x c3 c5) (Nat.lt_trans d.1 hi) hj _
    · have c5 : j > i := by
        have q : ¬ (j : Int) < (i : Int) := of_decide_eq_false (Bool.eq_false_iff.mpr c4)
        omega
      have d := dm_lt c2 c5
      have hq : (j - 1) / i < 2 ^ 4000 := Nat.lt_of_le_of_lt (Nat.le_trans (Nat.div_le_self _ _) (Nat.sub_le _ _)) hj
      refine ⟨_, rfl, _, _, rfl, rfl, _, rfl, _, _, rfl, rfl, okDiv c2 hi, ?_⟩
      dsimp only; rw [cast_div c3]
      refine ⟨_, rfl, .inl ⟨rfl, _, SqL.of hF⟩, _, rfl, (by show 2 ≤ sizeLine; decide), fun p hp => ?_⟩
      have nf : f ≠ p := ne_of_none hF hp
      refine ⟨f, us, .ref p, rfl, rfl, (by rw [upd_ne nf]; exact hF), hlen, ?_⟩
      refine ⟨_, rfl, _, rfl, _, rfl, _, _, rfl, rfl, okMul hq hi, _, _, rfl, rfl, ?_⟩
      dsimp only; rw [cast_sub]
      exact more false ((j - 1) / i) i _ p hp (by omega) (R_y c2 c5) hi (Nat.lt_trans d.1 hj) _

/-! ### _law_same -/
/-- no list or tuple is long -/
abbrev small : PyData → Bool := smallD
/-- two values of the same data -/
def spSame (n : Nat) (K : PySem.W.Frag) : Sp := fun vs H Q _ => ∃ (u v : V) (d : PyData), vs = [u, v] ∧ Dp K H u d ∧ Dp K H v d ∧ d.depth < n ∧ small d = true ∧ ∀ H', Same H H' → Q (.bl true) H'
def sp__law_same (K : PySem.W.Frag) : Sp := spSame 12 K

theorem sc__law_same : FnScope ["found", "due", "a", "b"] ["found", "due"] (defScope s__law_same) := ⟨rfl, rfl, rfl, by decide +kernel, rfl, by decide +kernel, by decide +kernel⟩
/-- lists within are short -/
theorem depth_get : ∀ {ds : List PyData} {i : Nat} {d : PyData}, ds[i]? = some d → d.depth ≤ PyData.depthAll ds
  | [], _, _, h => by cases h
  | _ :: _, 0, _, h => by
    cases h
    rw [PyData.depthAll]
    exact Nat.le_max_left _ _
  | _ :: ds, i + 1, _, h => by
    rw [PyData.depthAll]
    exact Nat.le_trans (depth_get (ds := ds) (i := i) (by simpa using h)) (Nat.le_max_right _ _)
theorem walk_zipT {K : PySem.W.Frag} {a b : Addr} {xs ys : List V} {n : Nat} (hn : n = min xs.length ys.length) : Walk (RZ.ItzT K a b) n (fun H => SqT K H a xs ∧ SqT K H b ys) (YPair (fun i => xs[i]?) (fun i => ys[i]?)) := by
  subst hn
  refine ⟨fun i _ hi q => ?_, fun _ q => ⟨xs, ys, q.1, q.2, by omega⟩, fun i H v H' _ q y => ?_⟩
  · have h1 : i < xs.length := by omega
    have h2 : i < ys.length := by omega
    exact ⟨xs, ys, xs[i], ys[i], q.1, q.2, by simp [h1], by simp [h2]⟩
  · obtain ⟨T, x, z, h1, h2, h3, h4, h5⟩ := y
    exact ⟨T, x, z, h1, h2, h3, h4 xs q.1, h5 ys q.2⟩
theorem same_step {n : Nat} (E : En K mg) (G__law_same : Good P w K mg base CX0 n "_law_same" ["found", "due"] (spSame n K)) : Good P w K mg base CX0 (n + 1) "_law_same" ["found", "due"] (spSame (n + 1) K) := by
  obtain ⟨fd, F⟩ := E.says.def_ 4 (d := d__law_same) rfl
  refine ⟨fd, ?_, F.bindsN fun _ _ _ _ _ _ us hl => match us, hl with | [_, _], _ => rfl, F.kp, E.gl "_law_same"⟩
  refine F.ok sc__law_same (fun vs H Q E' h => ?_) (fun cdv A outer s H vs Q E' hr h => ?_)
  · obtain ⟨u, v, d, rfl, _⟩ := h; rfl
  refine ⟨_, PSs.nox (pss_cons (ps_if (PW.pt (pw_or (pt_val (pe_callB call_isi (by rfl) (E.fr "isinstance") (by decide +kernel) (pa_cons (pv 1) (pa_cons (pe_bltn (v := .ty "list") (by rfl) (E.fr "list") (by decide +kernel) rfl) pa_nil)))) (pw_or1 (pt_val (pe_callB call_isi (by rfl) (E.fr "isinstance") (by decide +kernel) (pa_cons (pv 1) (pa_cons (pe_bltn (v := .ty "tuple") (by rfl) (E.fr "tuple") (by decide +kernel) rfl) pa_nil)))))))
        (pss_cons (ps_if (PW.pt (pw_or (pt_cmpR op_ne (pe_callB call_isi (by rfl) (E.fr "isinstance") (by decide +kernel) (pa_cons (pv 0) (pa_cons (pe_bltn (v := .ty "list") (by rfl) (E.fr "list") (by decide +kernel) rfl) pa_nil))) (pe_callB call_isi (by rfl) (E.fr "isinstance") (by decide +kernel) (pa_cons (pv 1) (pa_cons (pe_bltn (v := .ty "list") (by rfl) (E.fr "list") (by decide +kernel) rfl) pa_nil))) (nomark _)) (pw_or1 (pt_cmpR op_ne (pe_callB call_isi (by rfl) (E.fr "isinstance") (by decide +kernel) (pa_cons (pv 0) (pa_cons (pe_bltn (v := .ty "tuple") (by rfl) (E.fr "tuple") (by decide +kernel) rfl) pa_nil))) (pe_callB call_isi (by rfl) (E.fr "isinstance") (by decide +kernel) (pa_cons (pv 1) (pa_cons (pe_bltn (v := .ty "tuple") (by rfl) (E.fr "tuple") (by decide +kernel) rfl) pa_nil))) (nomark _)))))
        (pss_one (ps_ret pe_bl))
        pss_nil)
      (pss_one (ps_ret (pe_and (pe_cmpR op_eq (pe_callB call_len_seq (by rfl) (E.fr "len") (by decide +kernel) (pa_cons (pv 0) pa_nil)) (pe_callB call_len_seq (by rfl) (E.fr "len") (by decide +kernel) (pa_cons (pv 1) pa_nil)) (nomark _)) (pe_one (pe_callB (show CallR _ _ (rAll K) from cr_all rfl) (by rfl) (E.fr "all") (by decide +kernel) (pa_cons (pe_lc (own := [("a", 2), ("b", 3)]) (by rfl) sc__law_same.nd (RZ.pi_zipA (by rfl) (E.fr "zip") (pa_cons (pv 0) (pa_cons (pv 1) pa_nil))) (blkOk_by (N := ["found", "due", "a", "b"]) (sc := defScope s__law_same) (by decide +kernel)) (by exact fun _ _ _ _ _ => (show PG _ _ (gTup K 2 _) from pg_tup (n := 2) rfl (pgs_cons (pg_name (i := 2) sc__law_same.nd rfl (by first | exact Or.inl rfl | exact Or.inr rfl)) (pgs_cons (pg_name (i := 3) sc__law_same.nd rfl (by first | exact Or.inl rfl | exact Or.inr rfl)) pgs_nil)))) (by exact fun _ _ _ _ _ => pts_nil) (by exact fun _ _ _ _ _ => (pe_G G__law_same hr rfl pass0 (pa_cons (pv 2) (pa_cons (pv 3) pa_nil))))) pa_nil)))))))
        pss_nil)
      (pss_cons (ps_if (PW.pt (pw_or (pt_cmpR op_isN (pv 1) pe_non (nomark _)) (pw_or1 (pt_cmpR op_isN (pv 0) pe_non (nomark _)))))
        (pss_one (ps_ret (pe_and (pe_cmpR op_isN (pv 1) pe_non (nomark _)) (pe_one (pe_cmpR op_isN (pv 0) pe_non (nomark _))))))
        pss_nil)
      (pss_cons (ps_if (PW.pt (pw_or (pt_cmpR op_ne (pe_callB call_isi (by rfl) (E.fr "isinstance") (by decide +kernel) (pa_cons (pv 0) (pa_cons (pe_bltn (v := .ty "bool") (by rfl) (E.fr "bool") (by decide +kernel) rfl) pa_nil))) (pe_callB call_isi (by rfl) (E.fr "isinstance") (by decide +kernel) (pa_cons (pv 1) (pa_cons (pe_bltn (v := .ty "bool") (by rfl) (E.fr "bool") (by decide +kernel) rfl) pa_nil))) (nomark _)) (pw_or1 (pt_cmpR op_ne (pe_callB call_isi (by rfl) (E.fr "isinstance") (by decide +kernel) (pa_cons (pv 0) (pa_cons (pe_bltn (v := .ty "int") (by rfl) (E.fr "int") (by decide +kernel) rfl) pa_nil))) (pe_callB call_isi (by rfl) (E.fr "isinstance") (by decide +kernel) (pa_cons (pv 1) (pa_cons (pe_bltn (v := .ty "int") (by rfl) (E.fr "int") (by decide +kernel) rfl) pa_nil))) (nomark _)))))
        (pss_one (ps_ret pe_bl))
        pss_nil)
      (pss_one (ps_ret (pe_and (pe_cmpR op_eq (pe_callB call_isi (by rfl) (E.fr "isinstance") (by decide +kernel) (pa_cons (pv 0) (pa_cons (pe_bltn (v := .ty "str") (by rfl) (E.fr "str") (by decide +kernel) rfl) pa_nil))) (pe_callB call_isi (by rfl) (E.fr "isinstance") (by decide +kernel) (pa_cons (pv 1) (pa_cons (pe_bltn (v := .ty "str") (by rfl) (E.fr "str") (by decide +kernel) rfl) pa_nil))) (nomark _)) (pe_one (pe_cmpR op_eq (pv 0) (pv 1) (nomark _))))))))), ?_⟩
  obtain ⟨u, v, d, rfl, hu, hv, hd, hl, k⟩ := h
  rcases d with _ | bb | ii | ss | ds | ds | kv
  · -- none
    cases hv
    cases hu
    have t0 : TyX K H (V.non) (.type "NoneType") := .base .non
    refine ⟨_, rfl, _, _, _, _, false, rfl, .ty _, t0, kit_ty (by decide +kernel), _, rfl, ?_⟩
    refine ite_f rfl ⟨_, rfl, _, _, _, _, false, rfl, .ty _, t0, kit_ty (by decide +kernel), _, rfl, ?_⟩
    refine ite_f rfl ⟨_, rfl, rfl, _, rfl, ?_⟩
    refine ⟨_, rfl, rfl, _, rfl, ?_⟩
    refine ite_t rfl ⟨_, rfl, rfl, ?_⟩
    exact k H (Same.refl H)
  · -- bool
    cases hv
    cases hu
    have t0 : TyX K H (V.bl bb) (.type "bool") := .base (.bl bb)
    refine ⟨_, rfl, _, _, _, _, false, rfl, .ty _, t0, kit_ty (by decide +kernel), _, rfl, ?_⟩
    refine ite_f rfl ⟨_, rfl, _, _, _, _, false, rfl, .ty _, t0, kit_ty (by decide +kernel), _, rfl, ?_⟩
    refine ite_f rfl ⟨_, rfl, rfl, _, rfl, ?_⟩
    refine ite_f rfl ⟨_, rfl, rfl, _, rfl, ?_⟩
    refine ite_f rfl ⟨_, rfl, _, _, _, _, true, rfl, .ty _, t0, kit_ty (by decide +kernel), _, rfl, _, _, _, _, true, rfl, .ty _, t0, kit_ty (by decide +kernel), rfl, _, rfl, ?_⟩
    refine ite_f rfl ⟨_, rfl, _, _, _, _, true, rfl, .ty _, t0, kit_ty (by decide +kernel), _, rfl, _, _, _, _, true, rfl, .ty _, t0, kit_ty (by decide +kernel), rfl, _, rfl, ?_⟩
    refine ite_f rfl ⟨_, rfl, _, _, _, _, false, rfl, .ty _, t0, kit_ty (by decide +kernel), _, rfl, _, _, _, _, false, rfl, .ty _, t0, kit_ty (by decide +kernel), rfl, _, rfl, ?_⟩
    refine ite_t rfl ⟨_, rfl, _, rfl, rfl, ?_⟩
    rw [decide_eq_true (Eq.refl _)]
    exact k H (Same.refl H)
  · -- int
    cases hv
    cases hu
    have t0 : TyX K H (V.int ii) (.type "int") := .base (.int ii)
    refine ⟨_, rfl, _, _, _, _, false, rfl, .ty _, t0, kit_ty (by decide +kernel), _, rfl, ?_⟩
    refine ite_f rfl ⟨_, rfl, _, _, _, _, false, rfl, .ty _, t0, kit_ty (by decide +kernel), _, rfl, ?_⟩
    refine ite_f rfl ⟨_, rfl, rfl, _, rfl, ?_⟩
    refine ite_f rfl ⟨_, rfl, rfl, _, rfl, ?_⟩
    refine ite_f rfl ⟨_, rfl, _, _, _, _, false, rfl, .ty _, t0, kit_ty (by decide +kernel), _, rfl, _, _, _, _, false, rfl, .ty _, t0, kit_ty (by decide +kernel), rfl, _, rfl, ?_⟩
    refine ite_f rfl ⟨_, rfl, _, _, _, _, true, rfl, .ty _, t0, kit_ty (by decide +kernel), _, rfl, _, _, _, _, true, rfl, .ty _, t0, kit_ty (by decide +kernel), rfl, _, rfl, ?_⟩
    refine ite_f rfl ⟨_, rfl, _, _, _, _, false, rfl, .ty _, t0, kit_ty (by decide +kernel), _, rfl, _, _, _, _, false, rfl, .ty _, t0, kit_ty (by decide +kernel), rfl, _, rfl, ?_⟩
    refine ite_t rfl ⟨_, rfl, _, rfl, rfl, ?_⟩
    rw [decide_eq_true (Eq.refl _)]
    exact k H (Same.refl H)
  · -- str
    cases hv
    cases hu
    have t0 : TyX K H (V.str ss) (.type "str") := .base (.str ss)
    refine ⟨_, rfl, _, _, _, _, false, rfl, .ty _, t0, kit_ty (by decide +kernel), _, rfl, ?_⟩
    refine ite_f rfl ⟨_, rfl, _, _, _, _, false, rfl, .ty _, t0, kit_ty (by decide +kernel), _, rfl, ?_⟩
    refine ite_f rfl ⟨_, rfl, rfl, _, rfl, ?_⟩
    refine ite_f rfl ⟨_, rfl, rfl, _, rfl, ?_⟩
    refine ite_f rfl ⟨_, rfl, _, _, _, _, false, rfl, .ty _, t0, kit_ty (by decide +kernel), _, rfl, _, _, _, _, false, rfl, .ty _, t0, kit_ty (by decide +kernel), rfl, _, rfl, ?_⟩
    refine ite_f rfl ⟨_, rfl, _, _, _, _, false, rfl, .ty _, t0, kit_ty (by decide +kernel), _, rfl, _, _, _, _, false, rfl, .ty _, t0, kit_ty (by decide +kernel), rfl, _, rfl, ?_⟩
    refine ite_f rfl ⟨_, rfl, _, _, _, _, true, rfl, .ty _, t0, kit_ty (by decide +kernel), _, rfl, _, _, _, _, true, rfl, .ty _, t0, kit_ty (by decide +kernel), rfl, _, rfl, ?_⟩
    refine ite_t rfl ⟨_, rfl, _, rfl, rfl, ?_⟩
    rw [decide_eq_true (Eq.refl _)]
    exact k H (Same.refl H)
  · -- a list
    cases hv with
    | lst hv1 hv2 =>
    cases hu with
    | lst hu1 hu2 =>
    rename_i a xs b ys
    have tu := tyL hu1
    have tv := tyL hv1
    have hl := small_ofL hl
    have h0 : PyData.depthAll ds < n := by
      rw [PyData.depth] at hd
      omega
    have l1 := DpAll.length hu2
    have l2 := DpAll.length hv2
    refine ⟨_, rfl, _, _, _, _, true, rfl, .ty _, tv, kit_ty (by decide +kernel), _, rfl, ?_⟩
    refine ⟨_, rfl, _, _, _, _, true, rfl, .ty _, tu, kit_ty (by decide +kernel), _, rfl, _, _, _, _, true, rfl, .ty _, tv, kit_ty (by decide +kernel), rfl, _, rfl, ?_⟩
    refine ite_f rfl ⟨_, rfl, _, _, _, _, false, rfl, .ty _, tu, kit_ty (by decide +kernel), _, rfl, _, _, _, _, false, rfl, .ty _, tv, kit_ty (by decide +kernel), rfl, _, rfl, ?_⟩
    refine ite_f rfl ?_
    -- len(found) == len(due) and all([..])
    refine ⟨_, rfl, _, _, rfl, (.inl hu1), _, rfl, _, _, rfl, (.inl hv1), rfl, _, rfl, ?_⟩
    refine ite_t (decide_eq_true (by rw [l1, l2])) ?_
    refine ⟨_, rfl, _, rfl, _, _, _, _, rfl, (.inl ⟨hu1, hv1, fun D hD => ?_⟩)⟩
    refine lc_it (walk_zip (n := ds.length) (by rw [l1, l2, Nat.min_self])) (fun i H' => Same H H' ∧ H' D = some (.lst (List.replicate i (V.bl true)))) ⟨same_new hD, upd_same⟩ (fun i H' _ q => ⟨q.1.seq hu1, q.1.seq hv1⟩) ?_ ?_
    · rintro i x H2 H3 hi ⟨e2, g2⟩ ⟨T, u1, v1, rfl, hT, rfl, q1, q2⟩
      have e3 : Same H (upd H2 T (.tup [u1, v1])) := e2.trans (same_new hT)
      obtain ⟨d1, r1, s1⟩ := DpAll.get hu2 q1
      obtain ⟨d2, r2, s2⟩ := DpAll.get hv2 q2
      have ed : d2 = d1 := Option.some.inj (r2.symm.trans r1)
      subst ed
      refine ⟨T, _, rfl, SqT.of upd_same, rfl, _, _, rfl, _, _, rfl, rfl, rfl, ?_⟩
      refine ⟨_, rfl, _, rfl, u1, v1, d2, rfl, Dp.same e3 s1, Dp.same e3 s2, Nat.lt_of_le_of_lt (depth_get r1) h0, hl.2 r1, fun H4 e4 => ?_⟩
      refine ⟨_, e4 _ _ (by rw [upd_ne (ne_of_none g2 hT)]; exact g2), ?_, same_mut (e3.trans e4) hD, ?_⟩
      · rw [List.length_replicate]
        exact szl (Nat.lt_of_lt_of_le hi (Nat.le_trans hl.1 (by decide)))
      · rw [upd_same, List.replicate_succ']
    · rintro H2 ⟨e2, g2⟩
      refine ⟨D, List.replicate ds.length true, rfl, SqL.of (by rw [List.map_replicate]; exact g2), ?_⟩
      rw [show (List.replicate ds.length true).all id = true by simp]
      exact k H2 e2
  · -- a tuple
    cases hv with
    | tup hv1 hv2 =>
    cases hu with
    | tup hu1 hu2 =>
    rename_i a xs b ys
    have tu := tyT hu1
    have tv := tyT hv1
    have hl := small_ofT hl
    have h0 : PyData.depthAll ds < n := by
      rw [PyData.depth] at hd
      omega
    have l1 := DpAll.length hu2
    have l2 := DpAll.length hv2
    refine ⟨_, rfl, _, _, _, _, false, rfl, .ty _, tv, kit_ty (by decide +kernel), _, rfl, ?_⟩
    refine ite_f rfl ⟨_, rfl, _, _, _, _, true, rfl, .ty _, tv, kit_ty (by decide +kernel), _, rfl, ?_⟩
    refine ⟨_, rfl, _, _, _, _, false, rfl, .ty _, tu, kit_ty (by decide +kernel), _, rfl, _, _, _, _, false, rfl, .ty _, tv, kit_ty (by decide +kernel), rfl, _, rfl, ?_⟩
    refine ite_f rfl ⟨_, rfl, _, _, _, _, true, rfl, .ty _, tu, kit_ty (by decide +kernel), _, rfl, _, _, _, _, true, rfl, .ty _, tv, kit_ty (by decide +kernel), rfl, _, rfl, ?_⟩
    refine ite_f rfl ?_
    -- len(found) == len(due) and all([..])
    refine ⟨_, rfl, _, _, rfl, (.inr hu1), _, rfl, _, _, rfl, (.inr hv1), rfl, _, rfl, ?_⟩
    refine ite_t (decide_eq_true (by rw [l1, l2])) ?_
    refine ⟨_, rfl, _, rfl, _, _, _, _, rfl, (.inr ⟨hu1, hv1, fun D hD => ?_⟩)⟩
    refine lc_it (walk_zipT (n := ds.length) (by rw [l1, l2, Nat.min_self])) (fun i H' => Same H H' ∧ H' D = some (.lst (List.replicate i (V.bl true)))) ⟨same_new hD, upd_same⟩ (fun i H' _ q => ⟨seqT q.1 hu1, seqT q.1 hv1⟩) ?_ ?_
    · rintro i x H2 H3 hi ⟨e2, g2⟩ ⟨T, u1, v1, rfl, hT, rfl, q1, q2⟩
      have e3 : Same H (upd H2 T (.tup [u1, v1])) := e2.trans (same_new hT)
      obtain ⟨d1, r1, s1⟩ := DpAll.get hu2 q1
      obtain ⟨d2, r2, s2⟩ := DpAll.get hv2 q2
      have ed : d2 = d1 := Option.some.inj (r2.symm.trans r1)
      subst ed
      refine ⟨T, _, rfl, SqT.of upd_same, rfl, _, _, rfl, _, _, rfl, rfl, rfl, ?_⟩
      refine ⟨_, rfl, _, rfl, u1, v1, d2, rfl, Dp.same e3 s1, Dp.same e3 s2, Nat.lt_of_le_of_lt (depth_get r1) h0, hl.2 r1, fun H4 e4 => ?_⟩
      refine ⟨_, e4 _ _ (by rw [upd_ne (ne_of_none g2 hT)]; exact g2), ?_, same_mut (e3.trans e4) hD, ?_⟩
      · rw [List.length_replicate]
        exact szl (Nat.lt_of_lt_of_le hi (Nat.le_trans hl.1 (by decide)))
      · rw [upd_same, List.replicate_succ']
    · rintro H2 ⟨e2, g2⟩
      refine ⟨D, List.replicate ds.length true, rfl, SqL.of (by rw [List.map_replicate]; exact g2), ?_⟩
      rw [show (List.replicate ds.length true).all id = true by simp]
      exact k H2 e2
  · cases hu
theorem same_none (E : En K mg) : Good P w K mg base CX0 0 "_law_same" ["found", "due"] (spSame 0 K) := by
  obtain ⟨fd, F⟩ := E.says.def_ 4 (d := d__law_same) rfl
  have no : ∀ vs H Q E', ¬ spSame 0 K vs H Q E' := fun vs H Q E' h => by
    obtain ⟨u, v, d, _, _, _, hd, _⟩ := h
    omega
  exact ⟨fd, ⟨fun vs H Q E' h => absurd h (no vs H Q E'), fun A outer s H args us vs Q E' _ _ _ _ h => absurd h (no vs H Q E')⟩, F.bindsN fun _ _ _ _ _ _ us hl => match us, hl with | [_, _], _ => rfl, F.kp, E.gl "_law_same"⟩
theorem same_all (E : En K mg) : ∀ n : Nat, Good P w K mg base CX0 n "_law_same" ["found", "due"] (spSame n K)
  | 0 => same_none E
  | n + 1 => same_step E (same_all E n)
theorem ok__law_same (E : En K mg) : Good P w K mg base CX0 12 "_law_same" ["found", "due"] (sp__law_same K) := same_all E 12


/-! ### _law_runs -/
def sp__law_runs (K : PySem.W.Frag) : Sp := fun vs H Q _ => ∃ (v : V) (x y : Nat), vs = [v] ∧ PairAt K H v x y ∧ okP x y ∧
  ∀ (f : Addr) (us : List V) (H' : Hp), H f = none → Same H H' → H' f = some (.lst us) → DpAll K H' us ((R x y).map runD) → Q (.ref f) H'

theorem sc__law_runs : FnScope ["pair", "x", "y", "found"] ["pair"] (defScope s__law_runs) := ⟨rfl, rfl, rfl, by decide +kernel, rfl, by decide +kernel, by decide +kernel⟩
theorem ok__law_runs (E : En K mg) : Good P w K mg base CX0 1 "_law_runs" ["pair"] (sp__law_runs K) := by
  obtain ⟨fd, F⟩ := E.says.def_ 5 (d := d__law_runs) rfl
  refine ⟨fd, ?_, F.bindsN fun _ _ _ _ _ _ us hl => match us, hl with | [_], _ => rfl, F.kp, E.gl "_law_runs"⟩
  refine F.ok sc__law_runs (fun vs H Q E' h => ?_) (fun cdv A outer s H vs Q E' hr h => ?_)
  · obtain ⟨v, x, y, rfl, _⟩ := h; rfl
  · have hu64 := hu64_of hr
    refine ⟨_, PSs.nox (pss_cons (ps_asg (pv 0) (pg_tup rfl (pgs_cons (pg_name (i := 1) sc__law_runs.nd rfl (by first | exact Or.inl rfl | exact Or.inr rfl)) (pgs_cons (pg_name (i := 2) sc__law_runs.nd rfl (by first | exact Or.inl rfl | exact Or.inr rfl)) pgs_nil))))
      (pss_cons (ps_set (i := 3) sc__law_runs.nd rfl (by first | exact Or.inl rfl | exact Or.inr rfl) (pe_lst pa_nil))
      (pss_cons (ps_while PassesOwn.never (PW.pt (pw_and (pt_cmpR op_gt (pv 1) pe_int (nomark _)) (pw_and (pt_cmpR op_gt (pv 2) pe_int (nomark _)) (pw_and1 (pt_cmpR op_ne (pv 1) (pv 2) (nomark _))))))
        (pss_one (ps_if (pt_cmpR op_gt (pv 1) (pv 2) (nomark _))
        (pss_cons (ps_expr (pe_bm PySem.F.plainAttrs_list PySem.F.slot_list_append PySem.F.type_list_append mt_append (pv 3) (pa_cons (pe_tup (pa_cons pe_str (pa_cons (pe_op op_fdivW (pe_op op_sub (pv 1) pe_int) (pv 2)) pa_nil))) pa_nil)))
      (pss_one (ps_set (i := 1) sc__law_runs.nd rfl (by first | exact Or.inl rfl | exact Or.inr rfl) (pe_op op_sub (pv 1) (pe_op op_mulW (pe_ix ix_tup (pe_ix ix_list (pv 3) (pe_un un_neg pe_int) (fun _ _ => rfl)) pe_int (fun _ _ => rfl)) (pv 2))))))
        (pss_cons (ps_expr (pe_bm PySem.F.plainAttrs_list PySem.F.slot_list_append PySem.F.type_list_append mt_append (pv 3) (pa_cons (pe_tup (pa_cons pe_str (pa_cons (pe_op op_fdivW (pe_op op_sub (pv 2) pe_int) (pv 1)) pa_nil))) pa_nil)))
      (pss_one (ps_set (i := 2) sc__law_runs.nd rfl (by first | exact Or.inl rfl | exact Or.inr rfl) (pe_op op_sub (pv 2) (pe_op op_mulW (pe_ix ix_tup (pe_ix ix_list (pv 3) (pe_un un_neg pe_int) (fun _ _ => rfl)) pe_int (fun _ _ => rfl)) (pv 1)))))))))
      (pss_one (ps_ret (pv 3)))))), ?_⟩
    obtain ⟨v, x, y, rfl, hP, ok, k⟩ := h
    have e1 : Same H H := Same.refl H
    obtain ⟨a, rfl, hS⟩ := hP
    refine ⟨_, rfl, a, _, rfl, seqT e1 hS, rfl, _, _, rfl, _, _, rfl, rfl, (by show 0 ≤ sizeLine; decide), fun f hf => ?_⟩
    have hf0 : H f = none := Same.free e1 hf
    refine ⟨fun m σ H' => ∃ (i j : Nat) (acc : List (Bool × Nat)) (us : List V), m = i + j ∧ σ = [some (.ref a), some (.int (i : Int)), some (.int (j : Int)), some (.ref f)] ∧ acc ++ R i j = R x y ∧ i < 2 ^ 4000 ∧ j < 2 ^ 4000 ∧ Same H H' ∧ H' f = some (.lst us) ∧ DpAll K H' us (acc.map runD),
      ⟨x + y, x, y, [], [], rfl, rfl, rfl, ok.2.1, ok.2.2, same_mut e1 hf0, upd_same, .nil⟩, ?_⟩
    rintro m σ H' ⟨i, j, acc, us, rfl, rfl, hR, hi, hj, e, hF, hD⟩
    have fin : R i j = [] → Q (.ref f) H' := fun z => by
      rw [z, List.append_nil] at hR
      rw [hR] at hD
      exact k f us H' hf0 e hF hD
    have hlen : us.length < sizeLine := by
      have h1 := DpAll.length hD
      rw [List.length_map] at h1
      have h2 := R_len' ok
      rw [← hR, List.length_append] at h2
      exact szl (by omega)
    -- the turn's end: a run more
    have more : ∀ (b : Bool) (n i' j' : Nat) (p : Addr), H' p = none → i' + j' < i + j → R i j = (b, n) :: R i' j' → i' < 2 ^ 4000 → j' < 2 ^ 4000 →     ∃ m', m' < i + j ∧ ∃ (i j : Nat) (acc : List (Bool × Nat)) (us' : List V), m' = i + j ∧ [some (V.ref a), some (.int (i' : Int)), some (.int (j' : Int)), some (.ref f)] = [some (.ref a), some (.int (i : Int)), some (.int (j : Int)), some (.ref f)] ∧ acc ++ R i j = R x y ∧ i < 2 ^ 4000 ∧ j < 2 ^ 4000 ∧ Same H (upd (upd H' p (.tup [.str (letS b), .int (n : Int)])) f (.lst (us ++ [.ref p]))) ∧ (upd (upd H' p (.tup [.str (letS b), .int (n : Int)])) f (.lst (us ++ [.ref p]))) f = some (.lst us') ∧ DpAll K (upd (upd H' p (.tup [.str (letS b), .int (n : Int)])) f (.lst (us ++ [.ref p]))) us' (acc.map runD) := fun b n i' j' p hp hm hr h1 h2 => by
      have nf : f ≠ p := ne_of_none hF hp
      have hF2 : (upd H' p (.tup [.str (letS b), .int (n : Int)])) f = some (.lst us) := by rw [upd_ne nf]; exact hF
      have t1 : SameT H' (upd (upd H' p (.tup [.str (letS b), .int (n : Int)])) f (.lst (us ++ [.ref p]))) := (SameT.new hp).trans (.put hF2)
      refine ⟨i' + j', hm, i', j', acc ++ [(b, n)], us ++ [.ref p], rfl, rfl, ?_, h1, h2, same_mut (e.trans (same_new hp)) hf0, upd_same, ?_⟩
      · rw [List.append_assoc, ← hR, hr]
        rfl
      · rw [List.map_append]
        refine DpAll.append (Dp.sameTs t1 (noLs_map noL_runD acc) hD) (DpAll.one (.tup (SqT.of ?_) (.cons (.str _) (.cons (.int _) .nil))))
        rw [upd_ne nf.symm, upd_same]
    -- while x > 0 and y > 0 and x != y
    refine ⟨_, rfl, _, _, rfl, rfl, _, rfl, ?_⟩
    by_cases c2 : 0 < i
    rotate_left
    · exact ite_f (decide_eq_false (by omega)) (ite_f rfl ⟨_, rfl, fin (R_nil (by omega))⟩)
    refine ite_t (decide_eq_true (by omega)) ⟨_, rfl, _, _, rfl, rfl, _, rfl, ?_⟩
    by_cases c3 : 0 < j
    rotate_left
    · exact ite_f (decide_eq_false (by omega)) (ite_f rfl ⟨_, rfl, fin (R_nil (by omega))⟩)
    refine ite_t (decide_eq_true (by omega)) ⟨_, rfl, _, rfl, rfl, _, rfl, ?_⟩
    by_cases c1 : i = j
    · exact ite_f (by rw [deq (by omega)]; rfl) ⟨_, rfl, fin (R_nil (by omega))⟩
    refine ite_t (by rw [dne (by omega)]; rfl) ⟨fun σ' H'' => ∃ m', m' < i + j ∧ ∃ (i j : Nat) (acc : List (Bool × Nat)) (us : List V), m' = i + j ∧ σ' = [some (.ref a), some (.int (i : Int)), some (.int (j : Int)), some (.ref f)] ∧ acc ++ R i j = R x y ∧ i < 2 ^ 4000 ∧ j < 2 ^ 4000 ∧ Same H H'' ∧ H'' f = some (.lst us) ∧ DpAll K H'' us (acc.map runD), fun _ _ q => q, ?_⟩
    -- if x > y
    refine ⟨_, rfl, _, rfl, _, _, rfl, rfl, _, rfl, ?_⟩
    refine ite2 (fun c4 => ?_) (fun c4 => ?_)
    · have c5 : i > j := by
        have q : (j : Int) < (i : Int) := of_decide_eq_true c4
        omega
      have d := dm_lt c3 c5
      have hq : (i - 1) / j < 2 ^ 4000 := Nat.lt_of_le_of_lt (Nat.le_trans (Nat.div_le_self _ _) (Nat.sub_le _ _)) hi
      refine ⟨_, rfl, .inl ⟨rfl, _, SqL.of hF⟩, _, rfl, _, _, rfl, rfl, _, rfl, _, _, rfl, rfl, okDiv c3 hj, ?_⟩
      dsimp only; rw [cast_div c2]
      refine ⟨(by show 2 ≤ sizeLine; decide), fun p hp => ?_⟩
      have nf : f ≠ p := ne_of_none hF hp
      refine ⟨f, us, .ref p, rfl, rfl, (by rw [upd_ne nf]; exact hF), hlen, ?_⟩
      refine ⟨_, rfl, _, rfl, _, rfl, f, _, _, _, rfl, rfl, SqL.of upd_same, atI_last us _, p, _, _, _, rfl, rfl, SqT.of (by rw [upd_ne nf.symm, upd_same]), at2_1 _ _, _, rfl, _, _, rfl, rfl, okMul hq hj, _, _, rfl, rfl, ?_⟩
      dsimp only; rw [cast_sub]
      exact more true ((i - 1) / j) _ j p hp (by omega) (R_x c3 c5) (Nat.lt_trans d.1 hi) hj
    · have c5 : j > i := by
        have q : ¬ (j : Int) < (i : Int) := of_decide_eq_false (Bool.eq_false_iff.mpr c4)
        omega
      have d := dm_lt c2 c5
      have hq : (j - 1) / i < 2 ^ 4000 := Nat.lt_of_le_of_lt (Nat.le_trans (Nat.div_le_self _ _) (Nat.sub_le _ _)) hj
      refine ⟨_, rfl, .inl ⟨rfl, _, SqL.of hF⟩, _, rfl, _, _, rfl, rfl, _, rfl, _, _, rfl, rfl, okDiv c2 hi, ?_⟩
      dsimp only; rw [cast_div c3]
      refine ⟨(by show 2 ≤ sizeLine; decide), fun p hp => ?_⟩
      have nf : f ≠ p := ne_of_none hF hp
      refine ⟨f, us, .ref p, rfl, rfl, (by rw [upd_ne nf]; exact hF), hlen, ?_⟩
      refine ⟨_, rfl, _, rfl, _, rfl, f, _, _, _, rfl, rfl, SqL.of upd_same, atI_last us _, p, _, _, _, rfl, rfl, SqT.of (by rw [upd_ne nf.symm, upd_same]), at2_1 _ _, _, rfl, _, _, rfl, rfl, okMul hq hi, _, _, rfl, rfl, ?_⟩
      dsimp only; rw [cast_sub]
      exact more false ((j - 1) / i) i _ p hp (by omega) (R_y c2 c5) hi (Nat.lt_trans d.1 hj)

/-! ### _law_letters -/
def sp__law_letters (K : PySem.W.Frag) : Sp := fun vs H Q _ => ∃ (v : V) (x y : Nat), vs = [v] ∧ PairAt K H v x y ∧ x + y ≤ 1000 ∧ Q (.str (sgn (L x y))) H

theorem sc__law_letters : FnScope ["pair", "x", "y", "found"] ["pair"] (defScope s__law_letters) := ⟨rfl, rfl, rfl, by decide +kernel, rfl, by decide +kernel, by decide +kernel⟩
theorem ok__law_letters (E : En K mg) : Good P w K mg base CX0 1 "_law_letters" ["pair"] (sp__law_letters K) := by
  obtain ⟨fd, F⟩ := E.says.def_ 6 (d := d__law_letters) rfl
  refine ⟨fd, ?_, F.bindsN fun _ _ _ _ _ _ us hl => match us, hl with | [_], _ => rfl, F.kp, E.gl "_law_letters"⟩
  refine F.ok sc__law_letters (fun vs H Q E' h => ?_) (fun cdv A outer s H vs Q E' hr h => ?_)
  · obtain ⟨v, x, y, rfl, _⟩ := h; rfl
  · have hu64 := hu64_of hr
    refine ⟨_, PSs.nox (pss_cons (ps_asg (pv 0) (pg_tup rfl (pgs_cons (pg_name (i := 1) sc__law_letters.nd rfl (by first | exact Or.inl rfl | exact Or.inr rfl)) (pgs_cons (pg_name (i := 2) sc__law_letters.nd rfl (by first | exact Or.inl rfl | exact Or.inr rfl)) pgs_nil))))
      (pss_cons (ps_set (i := 3) sc__law_letters.nd rfl (by first | exact Or.inl rfl | exact Or.inr rfl) pe_str)
      (pss_cons (ps_while PassesOwn.never (PW.pt (pw_and (pt_cmpR op_gt (pv 1) pe_int (nomark _)) (pw_and (pt_cmpR op_gt (pv 2) pe_int (nomark _)) (pw_and1 (pt_cmpR op_ne (pv 1) (pv 2) (nomark _))))))
        (pss_one (ps_if (pt_cmpR op_gt (pv 1) (pv 2) (nomark _))
        (pss_one (ps_par (i := 3) (j := 1) rfl sc__law_letters.nd rfl rfl (by decide) rfl rfl (pa_cons (pe_op op_add_str (pv 3) pe_str) (pa_cons (pe_op op_sub (pv 1) (pv 2)) pa_nil)) rfl))
        (pss_one (ps_par (i := 3) (j := 2) rfl sc__law_letters.nd rfl rfl (by decide) rfl rfl (pa_cons (pe_op op_add_str (pv 3) pe_str) (pa_cons (pe_op op_sub (pv 2) (pv 1)) pa_nil)) rfl)))))
      (pss_one (ps_ret (pv 3)))))), ?_⟩
    obtain ⟨v, x, y, rfl, ⟨a, rfl, hS⟩, hb, k⟩ := h
    refine ⟨_, rfl, a, _, rfl, hS, rfl, _, _, rfl, _, _, rfl, rfl, ?_⟩
    refine ⟨fun m σ H' => ∃ (i j : Nat) (acc : List Bool), m = i + j ∧ σ = [some (.ref a), some (.int (i : Int)), some (.int (j : Int)), some (.str (sgn acc))] ∧ acc ++ L i j = L x y ∧ H' = H, ⟨x + y, x, y, [], rfl, by rw [sgn_nil]; rfl, rfl, rfl⟩, ?_⟩
    rintro m σ H' ⟨i, j, acc, rfl, rfl, hR, rfl⟩
    have fin : L i j = [] → Q (.str (sgn acc)) H' := fun z => by
      rw [z, List.append_nil] at hR
      rw [hR]
      exact k
    have hlen : (sgn acc).length + 1 ≤ sizeLine := by
      have h1 := L_le x y
      rw [← hR, List.length_append] at h1
      rw [sgn_len]
      exact sz (by omega)
    refine ⟨_, rfl, _, _, rfl, rfl, _, rfl, ?_⟩
    by_cases c2 : 0 < i
    rotate_left
    · exact ite_f (decide_eq_false (by omega)) (ite_f rfl ⟨_, rfl, fin (L_nil (by omega))⟩)
    refine ite_t (decide_eq_true (by omega)) ⟨_, rfl, _, _, rfl, rfl, _, rfl, ?_⟩
    by_cases c3 : 0 < j
    rotate_left
    · exact ite_f (decide_eq_false (by omega)) (ite_f rfl ⟨_, rfl, fin (L_nil (by omega))⟩)
    refine ite_t (decide_eq_true (by omega)) ⟨_, rfl, _, rfl, rfl, _, rfl, ?_⟩
    by_cases c1 : i = j
    · exact ite_f (by rw [deq (by omega)]; rfl) ⟨_, rfl, fin (L_nil (by omega))⟩
    refine ite_t (by rw [dne (by omega)]; rfl) ⟨fun σ' H'' => ∃ m', m' < i + j ∧ ∃ (i j : Nat) (acc : List Bool), m' = i + j ∧ σ' = [some (.ref a), some (.int (i : Int)), some (.int (j : Int)), some (.str (sgn acc))] ∧ acc ++ L i j = L x y ∧ H'' = H', fun _ _ q => q, ?_⟩
    refine ⟨_, rfl, _, rfl, _, _, rfl, rfl, _, rfl, ?_⟩
    refine ite2 (fun c4 => ?_) (fun c4 => ?_)
    · have c5 : i > j := by
        have q : (j : Int) < (i : Int) := of_decide_eq_true c4
        omega
      refine ⟨_, rfl, _, _, rfl, rfl, hlen, _, rfl, _, rfl, _, _, rfl, rfl, _, _, rfl, ?_⟩
      refine ⟨i - j + j, by omega, i - j, j, acc ++ [true], rfl, ?_, ?_, rfl⟩
      · show [_, some (V.int ((i : Int) - (j : Int))), _, some (V.str (sgn acc ++ ("X" : Str)))] = _
        rw [sgn_x, Int.ofNat_sub (by omega)]
      · rw [← hR, L_x c3 c5, List.append_assoc]
        rfl
    · have c5 : j > i := by
        have q : ¬ (j : Int) < (i : Int) := of_decide_eq_false (Bool.eq_false_iff.mpr c4)
        omega
      refine ⟨_, rfl, _, _, rfl, rfl, hlen, _, rfl, _, rfl, _, _, rfl, rfl, _, _, rfl, ?_⟩
      refine ⟨i + (j - i), by omega, i, j - i, acc ++ [false], rfl, ?_, ?_, rfl⟩
      · show [_, _, some (V.int ((j : Int) - (i : Int))), some (V.str (sgn acc ++ ("Y" : Str)))] = _
        rw [sgn_y, Int.ofNat_sub (by omega)]
      · rw [← hR, L_y c2 c5, List.append_assoc]
        rfl

/-! ### _law_pull -/
/-- a draw: some number from 0 on and below the amount; the bag alone has changed -/
def sp__law_pull (K : PySem.W.Frag) : Sp := fun vs H Q _ => ∃ (b : Addr) (n : Int), vs = [.ref b, .int n] ∧ Bag H b ∧ 0 < n ∧ n < 1073741824 ∧ ∀ (r : Int) (H' : Hp), 0 ≤ r → r < n → Bag H' b → Kp b H H' → Q (.int r) H'
theorem at4_0 (a b c d : V) : atI [a, b, c, d] 0 = some a := rfl
theorem at4_1 (a b c d : V) : atI [a, b, c, d] 1 = some b := rfl
theorem at4_2 (a b c d : V) : atI [a, b, c, d] 2 = some c := rfl
theorem at4_3 (a b c d : V) : atI [a, b, c, d] 3 = some d := rfl
/-- the bag behind the first if -/
def pullMid (b : Addr) (n : Int) (H : Hp) : L2.St → Hp → Prop := fun σ H' => Bag H' b ∧ Kp b H H' ∧ ∃ v, σ = [some (.ref b), some (.int n), v, none, none]
theorem bag_put {H : Hp} {b c : Addr} {xs : List Int} {i hold seed : Int} {o : HO} (h : o = .lst [.ref c, .int i, .int hold, .int seed]) (h2 : H c = some (.lst (xs.map V.int))) (ne : b ≠ c) (h3 : xs.length ≤ 63) (h4 : 0 ≤ i) (h5 : 0 ≤ hold) (h6 : 0 ≤ seed) (h7 : seed < 2147483647) : Bag (upd H b o) b :=
  ⟨c, xs, i, hold, seed, by rw [upd_same, h], by rw [upd_ne ne.symm]; exact h2, ne, h3, h4, h5, h6, h7⟩

theorem sc__law_pull : FnScope ["bag", "amount", "cell", "got", "seed"] ["bag", "amount"] (defScope s__law_pull) := ⟨rfl, rfl, rfl, by decide +kernel, rfl, by decide +kernel, by decide +kernel⟩
theorem ok__law_pull (E : En K mg) : Good P w K mg base CX0 1 "_law_pull" ["bag", "amount"] (sp__law_pull K) := by
  obtain ⟨fd, F⟩ := E.says.def_ 7 (d := d__law_pull) rfl
  refine ⟨fd, ?_, F.bindsN fun _ _ _ _ _ _ us hl => match us, hl with | [_, _], _ => rfl, F.kp, E.gl "_law_pull"⟩
  refine F.ok sc__law_pull (fun vs H Q E' h => ?_) (fun cdv A outer s H vs Q E' hr h => ?_)
  · obtain ⟨b, n, rfl, _⟩ := h; rfl
  · have hu64 := hu64_of hr
    refine ⟨_, PSs.nox (C8.pss_cut (ps_if (PW.pt (pw_and (pt_cmpR op_eq (pe_ix ix_list (pv 0) pe_int (fun _ _ => rfl)) pe_int (nomark _)) (pw_and1 (pt_cmpR op_lt (pe_ix ix_list (pv 0) pe_int (fun _ _ => rfl)) (pe_callB call_len_seq (by rfl) (E.fr "len") (by decide +kernel) (pa_cons (pe_ix ix_list (pv 0) pe_int (fun _ _ => rfl)) pa_nil)) (nomark _)))))
        (pss_cons (ps_set (i := 2) sc__law_pull.nd rfl (by first | exact Or.inl rfl | exact Or.inr rfl) (pe_ix ix_list (pe_ix ix_list (pv 0) pe_int (fun _ _ => rfl)) (pe_ix ix_list (pv 0) pe_int (fun _ _ => rfl)) (fun _ _ => rfl)))
      (pss_cons (ps_asg (pe_op op_add (pe_ix ix_list (pv 0) pe_int (fun _ _ => rfl)) pe_int) (pg_sub (pv 0) pe_int set_list))
      (pss_one (ps_if (pt_cmpR op_ge (pv 2) (pe_op op_pow pe_int pe_int) (nomark _))
        (pss_one (ps_asg (pv 2) (pg_sub (pv 0) pe_int set_list)))
        (pss_one (ps_asg (pe_op op_mod (pe_callTy call_int1 (by rfl) (E.fr "int") (by decide +kernel) (pa_cons (pe_op op_add (pe_op op_add (pe_op op_mul (pe_ix ix_list (pv 0) pe_int (fun _ _ => rfl)) pe_int) (pe_op op_mul (pe_op op_mod (pe_callTy call_int1 (by rfl) (E.fr "int") (by decide +kernel) (pa_cons (pv 2) pa_nil)) pe_int) pe_int)) pe_int) pa_nil)) pe_int) (pg_sub (pv 0) pe_int set_list)))))))
        pss_nil)
      (pss_cons (ps_if (pt_cmpR op_gt (pe_ix ix_list (pv 0) pe_int (fun _ _ => rfl)) pe_int (nomark _))
        (pss_cons (ps_set (i := 3) sc__law_pull.nd rfl (by first | exact Or.inl rfl | exact Or.inr rfl) (pe_op op_mod (pe_callTy call_int1 (by rfl) (E.fr "int") (by decide +kernel) (pa_cons (pe_ix ix_list (pv 0) pe_int (fun _ _ => rfl)) pa_nil)) (pv 1)))
      (pss_cons (ps_asg (pe_op op_fdiv (pe_ix ix_list (pv 0) pe_int (fun _ _ => rfl)) (pv 1)) (pg_sub (pv 0) pe_int set_list))
      (pss_one (ps_ret (pv 3)))))
        pss_nil)
      (pss_cons (ps_set (i := 4) sc__law_pull.nd rfl (by first | exact Or.inl rfl | exact Or.inr rfl) (pe_ix ix_list (pv 0) pe_int (fun _ _ => rfl)))
      (pss_cons (ps_asg (pe_op op_mod (pe_callTy call_int1 (by rfl) (E.fr "int") (by decide +kernel) (pa_cons (pe_op op_add (pe_op op_add (pe_op op_mul (pv 4) (pv 4)) (pe_op op_mul (pv 4) pe_int)) pe_int) pa_nil)) pe_int) (pg_sub (pv 0) pe_int set_list))
      (pss_one (ps_ret (pe_op op_mod (pe_callTy call_int1 (by rfl) (E.fr "int") (by decide +kernel) (pa_cons (pe_op op_add (pe_op op_fdiv (pe_ix ix_list (pv 0) pe_int (fun _ _ => rfl)) pe_int) (pe_op op_mul (pe_op op_mod (pe_callTy call_int1 (by rfl) (E.fr "int") (by decide +kernel) (pa_cons (pe_ix ix_list (pv 0) pe_int (fun _ _ => rfl)) pa_nil)) pe_int) pe_int)) pa_nil)) (pv 1)))))))), ?_⟩
    obtain ⟨b, n, rfl, B, hn, hn2, k⟩ := h
    refine ⟨pullMid b n H, ?_, ?_⟩
    · obtain ⟨c, xs, i, hold, seed, h1, h2, ne, h3, h4, h5, h6, h7⟩ := B.ex
      refine ⟨_, rfl, b, _, _, _, rfl, rfl, SqL.of h1, at4_2 _ _ _ _, rfl, _, rfl, ?_⟩
      by_cases c0 : hold = 0
      · subst c0
        refine ite_t (deq rfl) ?_
        refine ⟨_, rfl, b, _, _, _, rfl, rfl, SqL.of h1, at4_1 _ _ _ _, _, rfl, b, _, _, _, rfl, rfl, SqL.of h1, at4_0 _ _ _ _, c, _, rfl, .inl (SqL.of h2), _, _, rfl, rfl, _, rfl, ?_⟩
        refine ite2 (fun cl => ?_) (fun _ => ⟨B, Kp.refl _ _, _, rfl⟩)
        have cl' : i < ((xs.map V.int).length : Int) := of_decide_eq_true cl
        rw [List.length_map] at cl'
        have hi : i.toNat < xs.length := by omega
        have ei : ((i.toNat : Nat) : Int) = i := by omega
        have ha : atI (xs.map V.int) i = some (.int xs[i.toNat]) := by
          have q : atI (xs.map V.int) ((i.toNat : Nat) : Int) = some (.int xs[i.toNat]) := atI_nat (by rw [List.getElem?_map, List.getElem?_eq_getElem hi] <;> rfl)
          rw [ei] at q
          exact q
        -- cell = bag[0][bag[1]]
        refine ⟨_, rfl, b, _, _, _, rfl, rfl, SqL.of h1, at4_0 _ _ _ _, _, rfl, b, _, _, _, rfl, rfl, SqL.of h1, at4_1 _ _ _ _, c, _, _, _, rfl, rfl, SqL.of h2, ha, ?_⟩
        -- bag[1] = bag[1] + 1
        refine ⟨_, rfl, b, _, _, _, rfl, rfl, SqL.of h1, at4_1 _ _ _ _, _, _, rfl, rfl, _, rfl, b, _, _, 1, rfl, rfl, h1, rfl, ?_⟩
        have g1 : (upd H b (.lst [.ref c, .int (i + 1), .int 0, .int seed])) b = some (.lst [.ref c, .int (i + 1), .int 0, .int seed]) := upd_same
        have g2 : (upd H b (.lst [.ref c, .int (i + 1), .int 0, .int seed])) c = some (.lst (xs.map V.int)) := by rw [upd_ne ne.symm]; exact h2
        -- if cell >= 10 ** 18
        refine ⟨_, rfl, _, _, rfl, rfl, ⟨by decide, by decide, by decide⟩, _, _, rfl, rfl, _, rfl, ?_⟩
        refine ite2 (fun cc => ?_) (fun _ => ?_)
        · have cc' : (10 : Int) ^ (18 : Int).toNat ≤ xs[i.toNat] := of_decide_eq_true cc
          have c0 : 0 ≤ xs[i.toNat] := Int.le_trans (by decide) cc'
          refine ⟨_, rfl, _, rfl, b, _, _, 2, rfl, rfl, g1, rfl, ?_⟩
          exact ⟨bag_put rfl g2 ne h3 (by omega) c0 h6 h7, Kp.put.trans Kp.put, _, rfl⟩
        · refine ⟨_, rfl, b, _, _, _, rfl, rfl, SqL.of g1, at4_3 _ _ _ _, _, _, rfl, rfl, .inr ⟨by decide, by decide⟩, _, rfl, .inl ⟨_, rfl, _, _, rfl, rfl, (by show (0 : Int) < _; decide), _, _, rfl, rfl, .inr ⟨by decide, by decide⟩, _, _, rfl, rfl, _, _, rfl, rfl, .inl ⟨_, rfl, _, _, rfl, rfl, (by show (0 : Int) < _; decide), ?_⟩⟩⟩
          refine ⟨_, rfl, b, _, _, 3, rfl, rfl, g1, rfl, ?_⟩
          have q := emod_bd (seed * 40699 + xs[i.toNat] % 2147483587 * 69691 + 13) (m := 2147483647) (by decide)
          exact ⟨bag_put rfl g2 ne h3 (by omega) (by decide) q.1 q.2, Kp.put.trans Kp.put, _, rfl⟩
      · exact ite_f (dne c0) (ite_f rfl ⟨B, Kp.refl _ _, _, rfl⟩)
    · rintro σ H1 ⟨B1, kp, v, rfl⟩
      obtain ⟨c, xs, i, hold, seed, h1, h2, ne, h3, h4, h5, h6, h7⟩ := B1.ex
      refine ⟨_, rfl, b, _, _, _, rfl, rfl, SqL.of h1, at4_2 _ _ _ _, _, _, rfl, rfl, _, rfl, ?_⟩
      refine ite2 (fun _ => ?_) (fun _ => ?_)
      · -- got = int(bag[2]) % amount; bag[2] = bag[2] // amount; return got
        refine ⟨_, rfl, b, _, _, _, rfl, rfl, SqL.of h1, at4_2 _ _ _ _, .inl ⟨_, rfl, _, rfl, _, _, rfl, rfl, hn, ?_⟩⟩
        refine ⟨_, rfl, b, _, _, _, rfl, rfl, SqL.of h1, at4_2 _ _ _ _, _, rfl, _, _, rfl, rfl, ⟨hn, hn2⟩, _, rfl, b, _, _, 2, rfl, rfl, h1, rfl, _, rfl, ?_⟩
        have q := emod_bd hold (m := n) hn
        exact k _ _ q.1 q.2 (bag_put rfl h2 ne h3 h4 (Int.ediv_nonneg h5 (by omega)) h6 h7) (kp.trans Kp.put)
      · -- seed = bag[3]
        refine ⟨_, rfl, b, _, _, _, rfl, rfl, SqL.of h1, at4_3 _ _ _ _, ?_⟩
        refine ⟨_, rfl, _, rfl, _, _, rfl, rfl, .inr ⟨by omega, by omega⟩, _, rfl, _, _, rfl, rfl, .inr ⟨by decide, by decide⟩, _, _, rfl, rfl, _, _, rfl, rfl, .inl ⟨_, rfl, _, _, rfl, rfl, (by show (0 : Int) < _; decide), _, rfl, b, _, _, 3, rfl, rfl, h1, rfl, ?_⟩⟩
        have g1 : ∀ z : Int, (upd H1 b (.lst [.ref c, .int i, .int hold, .int z])) b = some (.lst [.ref c, .int i, .int hold, .int z]) := fun _ => upd_same
        refine ⟨_, rfl, b, _, _, _, rfl, rfl, SqL.of (g1 _), at4_3 _ _ _ _, _, _, rfl, rfl, ⟨by decide, by decide⟩, _, rfl, b, _, _, _, rfl, rfl, SqL.of (g1 _), at4_3 _ _ _ _, .inl ⟨_, rfl, _, _, rfl, rfl, (by show (0 : Int) < _; decide), _, _, rfl, rfl, .inr ⟨by decide, by decide⟩, _, _, rfl, rfl, .inl ⟨_, rfl, _, rfl, _, _, rfl, rfl, hn, ?_⟩⟩⟩
        have q := emod_bd (seed * seed + seed * 48271 + 1013904227) (m := 2147483647) (by decide)
        have r := emod_bd ((seed * seed + seed * 48271 + 1013904227) % 2147483647 / 97 + (seed * seed + seed * 48271 + 1013904227) % 2147483647 % 8191 * 67) (m := n) hn
        exact k _ _ r.1 r.2 (bag_put rfl h2 ne h3 h4 h5 q.1 q.2) (kp.trans Kp.put)

/-! ### _law_of -/
/-- one of the things of a list, whichever -/
def sp__law_of (K : PySem.W.Frag) : Sp := fun vs H Q _ => ∃ (b t : Addr) (xs : List V), vs = [.ref b, .ref t] ∧ Bag H b ∧ t ≠ b ∧ SqL K H t xs ∧ 0 < xs.length ∧ xs.length ≤ 1000 ∧ ∀ (i : Nat) (v : V) (H' : Hp), xs[i]? = some v → Bag H' b → Kp b H H' → Q v H'

theorem sc__law_of : FnScope ["bag", "things"] ["bag", "things"] (defScope s__law_of) := ⟨rfl, rfl, rfl, by decide +kernel, rfl, by decide +kernel, by decide +kernel⟩
theorem ok__law_of (E : En K mg) (G__law_pull : Good P w K mg base CX0 1 "_law_pull" ["bag", "amount"] (sp__law_pull K)) : Good P w K mg base CX0 2 "_law_of" ["bag", "things"] (sp__law_of K) := by
  obtain ⟨fd, F⟩ := E.says.def_ 8 (d := d__law_of) rfl
  refine ⟨fd, ?_, F.bindsN fun _ _ _ _ _ _ us hl => match us, hl with | [_, _], _ => rfl, F.kp, E.gl "_law_of"⟩
  refine F.ok sc__law_of (fun vs H Q E' h => ?_) (fun cdv A outer s H vs Q E' hr h => ?_)
  · obtain ⟨b, t, xs, rfl, _⟩ := h; rfl
  · have hu64 := hu64_of hr
    refine ⟨_, PSs.nox (pss_one (ps_ret (pe_ix ix_list (pv 1) (pe_G G__law_pull (hr.mono (by decide)) rfl pass0 (pa_cons (pv 0) (pa_cons (pe_callB call_len_seq (by rfl) (E.fr "len") (by decide +kernel) (pa_cons (pv 1) pa_nil)) pa_nil))) (fun _ _ => rfl)))), ?_⟩
    obtain ⟨b, t, xs, rfl, B, ne, hS, h0, h1, k⟩ := h
    refine ⟨_, rfl, _, rfl, _, rfl, t, xs, rfl, .inl hS, ?_⟩
    refine ⟨b, _, rfl, B, by omega, by omega, fun r H' r0 r1 B' kp => ?_⟩
    have hi : r.toNat < xs.length := by omega
    have ei : ((r.toNat : Nat) : Int) = r := by omega
    have ha : atI xs r = some xs[r.toNat] := by
      have q : atI xs ((r.toNat : Nat) : Int) = some xs[r.toNat] := atI_nat (List.getElem?_eq_getElem hi)
      rw [ei] at q
      exact q
    exact ⟨t, xs, _, _, rfl, rfl, kp.seq ne hS, ha, k r.toNat _ H' (List.getElem?_eq_getElem hi) B' kp⟩

/-! ### _law_far_pair -/
/-- some pair with runs of up to 10 ** 12 + 1000 letters; the bag alone has changed -/
def sp__law_far_pair (K : PySem.W.Frag) : Sp := fun vs H Q _ => ∃ b : Addr, vs = [.ref b] ∧ Bag H b ∧
  ∀ (v : V) (x y : Nat) (H' : Hp), PairAt K H' v x y → okP x y → Bag H' b → Kp b H H' → Q v H'
def farMid (b : Addr) (H : Hp) : L2.St → Hp → Prop := fun σ H' => ∃ (w k c : Option V) (x y : Nat), σ = [some (.ref b), w, some (.int (x : Int)), some (.int (y : Int)), k, c] ∧ okP x y ∧ Bag H' b ∧ Kp b H H'
theorem far_step {x y c i : Nat} (hx : x < 2 ^ (10 + 50 * i)) (hy : y < 2 ^ (10 + 50 * i)) (hc : c < 2 ^ 41) : x + c * y < 2 ^ (10 + 50 * (i + 1)) := by
  have e : 10 + 50 * (i + 1) = (10 + 50 * i) + 50 := by omega
  rw [e, Nat.pow_add]
  have h1 : c * y ≤ 2 ^ 41 * 2 ^ (10 + 50 * i) := Nat.mul_le_mul (Nat.le_of_lt hc) (Nat.le_of_lt hy)
  have h2 : 0 < 2 ^ (10 + 50 * i) := Nat.pow_pos (by decide)
  omega
theorem far_mono {x i : Nat} (h : x < 2 ^ (10 + 50 * i)) : x < 2 ^ (10 + 50 * (i + 1)) := Nat.lt_of_lt_of_le h (Nat.pow_le_pow_right (by decide) (by omega))
theorem far_counts {xs : List V} {r1 r2 : Int} {j : Nat} {v : V} (e : xs = [.int 1, .int 2, .int 3, .int 7, .int (10 ^ (12 : Int).toNat + r1), .int (10 ^ (8 : Int).toNat + r2)]) (h : xs[j]? = some v) (a1 : 0 ≤ r1) (a2 : r1 < 1000) (b1 : 0 ≤ r2) (b2 : r2 < 97) :
    ∃ c : Nat, v = .int (c : Int) ∧ 0 < c ∧ c < 2 ^ 41 := by
  have e1 : (10 : Int) ^ (12 : Int).toNat = 1000000000000 := by decide
  have e2 : (10 : Int) ^ (8 : Int).toNat = 100000000 := by decide
  rw [e1, e2] at e
  subst e
  have ok : ∀ z : Int, 0 < z → z < 2199023255552 → V.int z = v → ∃ c : Nat, v = .int (c : Int) ∧ 0 < c ∧ c < 2 ^ 41 := fun z h1 h2 e => ⟨z.toNat, by rw [← e, show ((z.toNat : Nat) : Int) = z by omega], by omega, by omega⟩
  match j, h with
  | 0, h => exact ok _ (by omega) (by omega) (Option.some.inj h)
  | 1, h => exact ok _ (by omega) (by omega) (Option.some.inj h)
  | 2, h => exact ok _ (by omega) (by omega) (Option.some.inj h)
  | 3, h => exact ok _ (by omega) (by omega) (Option.some.inj h)
  | 4, h => exact ok _ (by omega) (by omega) (Option.some.inj h)
  | 5, h => exact ok _ (by omega) (by omega) (Option.some.inj h)
theorem two_words {j : Nat} {v : V} (h : ([.str "flat", .str "steep"] : List V)[j]? = some v) : ∃ z : Str, v = .str z := by
  match j, h with
  | 0, h => exact ⟨_, (Option.some.inj h).symm⟩
  | 1, h => exact ⟨_, (Option.some.inj h).symm⟩

theorem sc__law_far_pair : FnScope ["bag", "word", "x", "y", "k", "count"] ["bag"] (defScope s__law_far_pair) := ⟨rfl, rfl, rfl, by decide +kernel, rfl, by decide +kernel, by decide +kernel⟩
theorem ok__law_far_pair (E : En K mg) (G__law_pull : Good P w K mg base CX0 1 "_law_pull" ["bag", "amount"] (sp__law_pull K)) (G__law_of : Good P w K mg base CX0 2 "_law_of" ["bag", "things"] (sp__law_of K)) : Good P w K mg base CX0 3 "_law_far_pair" ["bag"] (sp__law_far_pair K) := by
  obtain ⟨fd, F⟩ := E.says.def_ 9 (d := d__law_far_pair) rfl
  refine ⟨fd, ?_, F.bindsN fun _ _ _ _ _ _ us hl => match us, hl with | [_], _ => rfl, F.kp, E.gl "_law_far_pair"⟩
  refine F.ok sc__law_far_pair (fun vs H Q E' h => ?_) (fun cdv A outer s H vs Q E' hr h => ?_)
  · obtain ⟨b, rfl, _⟩ := h; rfl
  · have hu64 := hu64_of hr
    refine ⟨_, PSs.nox (pss_cons (ps_set (i := 1) sc__law_far_pair.nd rfl (by first | exact Or.inl rfl | exact Or.inr rfl) pe_str)
      (pss_cons (ps_set (i := 2) sc__law_far_pair.nd rfl (by first | exact Or.inl rfl | exact Or.inr rfl) (pe_op op_add pe_int (pe_G G__law_pull (hr.mono (by decide)) rfl pass0 (pa_cons (pv 0) (pa_cons pe_int pa_nil)))))
      (pss_cons (ps_set (i := 3) sc__law_far_pair.nd rfl (by first | exact Or.inl rfl | exact Or.inr rfl) (pv 2))
      (pss_cons (ps_for PassesOwn.never rfl (pi_range1 rfl (E.fr "range") (pa_cons (pe_G G__law_pull (hr.mono (by decide)) rfl pass0 (pa_cons (pv 0) (pa_cons pe_int pa_nil))) pa_nil)) (pg_name (i := 4) sc__law_far_pair.nd rfl (by first | exact Or.inl rfl | exact Or.inr rfl))
        (pss_cons (ps_set (i := 5) sc__law_far_pair.nd rfl (by first | exact Or.inl rfl | exact Or.inr rfl) (pe_G G__law_of (hr.mono (by decide)) rfl pass0 (pa_cons (pv 0) (pa_cons (pe_lst (pa_cons pe_int (pa_cons pe_int (pa_cons pe_int (pa_cons pe_int (pa_cons (pe_op op_add (pe_op op_pow pe_int pe_int) (pe_G G__law_pull (hr.mono (by decide)) rfl pass0 (pa_cons (pv 0) (pa_cons pe_int pa_nil)))) (pa_cons (pe_op op_add (pe_op op_pow pe_int pe_int) (pe_G G__law_pull (hr.mono (by decide)) rfl pass0 (pa_cons (pv 0) (pa_cons pe_int pa_nil)))) pa_nil))))))) pa_nil))))
      (pss_one (ps_if (pt_cmpR op_eq (pe_op op_mod (pe_callTy call_int1 (by rfl) (E.fr "int") (by decide +kernel) (pa_cons (pv 4) pa_nil)) pe_int) pe_int (nomark _))
        (pss_one (ps_set (i := 2) sc__law_far_pair.nd rfl (by first | exact Or.inl rfl | exact Or.inr rfl) (pe_op op_add (pv 2) (pe_op op_mul (pv 5) (pv 3)))))
        (pss_one (ps_set (i := 3) sc__law_far_pair.nd rfl (by first | exact Or.inl rfl | exact Or.inr rfl) (pe_op op_add (pv 3) (pe_op op_mul (pv 5) (pv 2)))))))))
      (C8.pss_cut (ps_if (pt_cmpR op_eq (pe_G G__law_pull (hr.mono (by decide)) rfl pass0 (pa_cons (pv 0) (pa_cons pe_int pa_nil))) pe_int (nomark _))
        (pss_cons (ps_set (i := 1) sc__law_far_pair.nd rfl (by first | exact Or.inl rfl | exact Or.inr rfl) (pe_G G__law_of (hr.mono (by decide)) rfl pass0 (pa_cons (pv 0) (pa_cons (pe_lst (pa_cons pe_str (pa_cons pe_str pa_nil))) pa_nil))))
      (pss_one (ps_asg (pe_ifExp (pt_cmpR op_eq (pv 1) pe_str (nomark _)) (pe_tup (pa_cons (pv 2) (pa_cons pe_int pa_nil))) (pe_tup (pa_cons pe_int (pa_cons (pv 3) pa_nil)))) (pg_tup rfl (pgs_cons (pg_name (i := 2) sc__law_far_pair.nd rfl (by first | exact Or.inl rfl | exact Or.inr rfl)) (pgs_cons (pg_name (i := 3) sc__law_far_pair.nd rfl (by first | exact Or.inl rfl | exact Or.inr rfl)) pgs_nil))))))
        pss_nil)
      (pss_one (ps_ret (pe_ifExp (pt_cmpR op_eq (pe_G G__law_pull (hr.mono (by decide)) rfl pass0 (pa_cons (pv 0) (pa_cons pe_int pa_nil))) pe_int (nomark _)) (pe_tup (pa_cons (pv 2) (pa_cons (pv 3) pa_nil))) (pe_tup (pa_cons (pv 3) (pa_cons (pv 2) pa_nil))))))))))), ?_⟩
    obtain ⟨b, rfl, B, k⟩ := h
    refine ⟨_, rfl, b, _, rfl, B, by decide, by decide, fun r0 H1 r00 r01 B1 k1 => ⟨_, _, rfl, rfl, _, rfl, ?_⟩⟩
    refine ⟨_, rfl, b, _, rfl, B1, by decide, by decide, fun r1 H2 r10 r11 B2 k2 => ⟨_, rfl, by omega, by omega, ?_⟩⟩
    refine for_range (lo := 0) (n := r1.toNat) (fun i σ H' => ∃ (k c : Option V) (x y : Nat), σ = [some (.ref b), some (.str "even"), some (.int (x : Int)), some (.int (y : Int)), k, c] ∧ 0 < x ∧ 0 < y ∧ x < 2 ^ (10 + 50 * i) ∧ y < 2 ^ (10 + 50 * i) ∧ Bag H' b ∧ Kp b H H')
      ⟨none, none, (1 + r0).toNat, (1 + r0).toNat, ?_, by omega, by omega, by omega, by omega, B2, k1.trans k2⟩ ?_ ?_
    · rw [show (((1 + r0).toNat : Nat) : Int) = 1 + r0 by omega]
      rfl
    · rintro i σ H3 hi ⟨k', c, x, y, rfl, hx, hy, bx, bY, B3, k3⟩
      -- count = _law_of(bag, [..])
      refine ⟨_, rfl, _, _, rfl, rfl, ⟨by decide, by decide, by decide⟩, _, rfl, b, _, rfl, B3, by decide, by decide, fun r2 H4 r20 r21 B4 k4 => ⟨_, _, rfl, rfl, ?_⟩⟩
      refine ⟨_, _, rfl, rfl, ⟨by decide, by decide, by decide⟩, _, rfl, b, _, rfl, B4, by decide, by decide, fun r3 H5 r30 r31 B5 k5 => ⟨_, _, rfl, rfl, (by show 6 ≤ sizeLine; decide), fun t ht => ?_⟩⟩
      refine ⟨b, t, _, rfl, B5.keep (same_new ht), B5.ne ht, SqL.of upd_same, (by show 0 < 6; decide), (by show 6 ≤ 1000; decide), fun j v H6 hv B6 k6 => ?_⟩
      obtain ⟨cn, rfl, c0, c1⟩ := far_counts rfl hv r20 r21 r30 r31
      have kk : Kp b H H6 := k3.trans (k4.trans ((k5.new ht).trans k6))
      refine ⟨_, rfl, .inl ⟨_, rfl, _, _, rfl, rfl, (by show (0 : Int) < 2; decide), rfl, _, rfl, ?_⟩⟩
      refine ite2 (fun _ => ?_) (fun _ => ?_)
      · refine ⟨_, rfl, _, rfl, _, rfl, _, _, rfl, rfl, .inl ⟨by omega, by omega⟩, _, _, rfl, rfl, ?_⟩
        refine ⟨some (.int (0 + (i : Int))), some (.int (cn : Int)), x + cn * y, y, ?_, by omega, hy, far_step bx bY c1, far_mono bY, B6, kk⟩
        rw [Int.natCast_add, Int.natCast_mul]
        rfl
      · refine ⟨_, rfl, _, rfl, _, rfl, _, _, rfl, rfl, .inl ⟨by omega, by omega⟩, _, _, rfl, rfl, ?_⟩
        refine ⟨some (.int (0 + (i : Int))), some (.int (cn : Int)), x, y + cn * x, ?_, hx, by omega, far_mono bx, far_step bY bx c1, B6, kk⟩
        rw [Int.natCast_add, Int.natCast_mul]
        rfl
    · rintro σ H3 ⟨k', c, x, y, rfl, hx, hy, bx, bY, B3, k3⟩
      have big : ∀ z : Nat, z < 2 ^ (10 + 50 * r1.toNat) → z < 2 ^ 4000 := fun z h => Nat.lt_of_lt_of_le h (Nat.pow_le_pow_right (by decide) (by omega))
      have okxy : okP x y := ⟨by omega, big x bx, big y bY⟩
      refine ⟨farMid b H, ?_, ?_⟩
      · refine ⟨_, rfl, b, _, rfl, B3, by decide, by decide, fun r4 H4 _ _ B4 k4 => ⟨rfl, _, rfl, ?_⟩⟩
        have k34 := k3.trans k4
        refine ite2 (fun _ => ?_) (fun _ => ⟨_, _, _, x, y, rfl, okxy, B4, k34⟩)
        refine ⟨_, rfl, (by show 2 ≤ sizeLine; decide), fun t ht => ?_⟩
        refine ⟨b, t, _, rfl, B4.keep (same_new ht), B4.ne ht, SqL.of upd_same, (by show 0 < 2; decide), (by show 2 ≤ 1000; decide), fun j v H5 hv B5 k5 => ?_⟩
        obtain ⟨z, rfl⟩ := two_words hv
        have k35 := (k34.new ht).trans k5
        refine ⟨_, rfl, rfl, _, rfl, ?_⟩
        refine ite2 (fun _ => ?_) (fun _ => ?_)
        · refine ⟨_, rfl, (by show 2 ≤ sizeLine; decide), fun p hp => ⟨p, _, rfl, SqT.of upd_same, rfl, _, _, rfl, _, _, rfl, rfl, ?_⟩⟩
          exact ⟨_, _, _, x, 0, rfl, ⟨by omega, okxy.2.1, Nat.pow_pos (by decide)⟩, B5.keep (same_new hp), k35.new hp⟩
        · refine ⟨_, rfl, (by show 2 ≤ sizeLine; decide), fun p hp => ⟨p, _, rfl, SqT.of upd_same, rfl, _, _, rfl, _, _, rfl, rfl, ?_⟩⟩
          exact ⟨_, _, _, 0, y, rfl, ⟨by omega, Nat.pow_pos (by decide), okxy.2.2⟩, B5.keep (same_new hp), k35.new hp⟩
      · rintro σ H4 ⟨w', k'', c', x, y, rfl, ok, B4, k4⟩
        refine ⟨_, rfl, b, _, rfl, B4, by decide, by decide, fun r5 H5 _ _ B5 k5 => ⟨rfl, _, rfl, ?_⟩⟩
        refine ite2 (fun _ => ?_) (fun _ => ?_)
        · refine ⟨_, rfl, _, rfl, (by show 2 ≤ sizeLine; decide), fun p hp => ?_⟩
          exact k _ x y _ ⟨p, rfl, SqT.of upd_same⟩ ok (B5.keep (same_new hp)) ((k4.trans k5).new hp)
        · refine ⟨_, rfl, _, rfl, (by show 2 ≤ sizeLine; decide), fun p hp => ?_⟩
          exact k _ y x _ ⟨p, rfl, SqT.of upd_same⟩ ⟨fun h => ok.1 ⟨h.2, h.1⟩, ok.2.2, ok.2.1⟩ (B5.keep (same_new hp)) ((k4.trans k5).new hp)

/-! ### _law_pair -/
/-- some pair; the bag alone has changed -/
def sp__law_pair (K : PySem.W.Frag) : Sp := fun vs H Q _ => ∃ (b : Addr) (n : Nat), vs = [.ref b, .int (n : Int)] ∧ Bag H b ∧ 0 < n ∧ n < 100000 ∧
  ∀ (v : V) (x y : Nat) (H' : Hp), PairAt K H' v x y → ¬ (x = 0 ∧ y = 0) → x ≤ n + 3 → y ≤ n + 3 → Bag H' b → Kp b H H' → Q v H'

theorem sc__law_pair : FnScope ["bag", "top_z", "kind", "x", "y"] ["bag", "top_z"] (defScope s__law_pair) := ⟨rfl, rfl, rfl, by decide +kernel, rfl, by decide +kernel, by decide +kernel⟩
theorem ok__law_pair (E : En K mg) (G__law_pull : Good P w K mg base CX0 1 "_law_pull" ["bag", "amount"] (sp__law_pull K)) : Good P w K mg base CX0 2 "_law_pair" ["bag", "top_z"] (sp__law_pair K) := by
  obtain ⟨fd, F⟩ := E.says.def_ 10 (d := d__law_pair) rfl
  refine ⟨fd, ?_, F.bindsN fun _ _ _ _ _ _ us hl => match us, hl with | [_, _], _ => rfl, F.kp, E.gl "_law_pair"⟩
  refine F.ok sc__law_pair (fun vs H Q E' h => ?_) (fun cdv A outer s H vs Q E' hr h => ?_)
  · obtain ⟨b, n, rfl, _⟩ := h; rfl
  · have hu64 := hu64_of hr
    refine ⟨_, PSs.nox (pss_cons (ps_set (i := 2) sc__law_pair.nd rfl (by first | exact Or.inl rfl | exact Or.inr rfl) (pe_G G__law_pull (hr.mono (by decide)) rfl pass0 (pa_cons (pv 0) (pa_cons pe_int pa_nil))))
      (pss_cons (ps_par (i := 3) (j := 4) rfl sc__law_pair.nd rfl rfl (by decide) rfl rfl (pa_cons (pe_op op_add pe_int (pe_G G__law_pull (hr.mono (by decide)) rfl pass0 (pa_cons (pv 0) (pa_cons (pv 1) pa_nil)))) (pa_cons (pe_op op_add pe_int (pe_G G__law_pull (hr.mono (by decide)) rfl pass0 (pa_cons (pv 0) (pa_cons (pv 1) pa_nil)))) pa_nil)) rfl)
      (pss_cons (ps_if (pt_cmpR op_eq (pv 2) pe_int (nomark _))
        (pss_one (ps_ret (pe_tup (pa_cons (pv 3) (pa_cons pe_int pa_nil)))))
        pss_nil)
      (pss_cons (ps_if (pt_cmpR op_eq (pv 2) pe_int (nomark _))
        (pss_one (ps_ret (pe_tup (pa_cons pe_int (pa_cons (pv 4) pa_nil)))))
        pss_nil)
      (pss_cons (ps_if (pt_cmpR op_eq (pv 2) pe_int (nomark _))
        (pss_one (ps_ret (pe_tup (pa_cons (pv 3) (pa_cons (pv 3) pa_nil)))))
        pss_nil)
      (pss_cons (ps_if (pt_cmpR op_eq (pv 2) pe_int (nomark _))
        (pss_one (ps_ret (pe_tup (pa_cons (pv 3) (pa_cons (pe_op op_add pe_int (pe_G G__law_pull (hr.mono (by decide)) rfl pass0 (pa_cons (pv 0) (pa_cons pe_int pa_nil)))) pa_nil)))))
        pss_nil)
      (pss_cons (ps_if (pt_cmpR op_eq (pv 2) pe_int (nomark _))
        (pss_one (ps_ret (pe_tup (pa_cons (pe_op op_add pe_int (pe_G G__law_pull (hr.mono (by decide)) rfl pass0 (pa_cons (pv 0) (pa_cons pe_int pa_nil)))) (pa_cons (pv 4) pa_nil)))))
        pss_nil)
      (pss_one (ps_ret (pe_tup (pa_cons (pv 3) (pa_cons (pv 4) pa_nil)))))))))))), ?_⟩
    obtain ⟨b, n, rfl, B, hn, hn2, k⟩ := h
    refine ⟨_, rfl, b, _, rfl, B, by decide, by decide, fun r1 H1 _ _ B1 k1 => ?_⟩
    refine ⟨_, rfl, _, rfl, b, _, rfl, B1, by omega, by omega, fun x H2 x0 x1 B2 k2 => ⟨_, _, rfl, rfl, _, rfl, _, rfl, b, _, rfl, B2, by omega, by omega, fun y H3 y0 y1 B3 k3 => ⟨_, _, rfl, rfl, _, _, rfl, ?_⟩⟩⟩
    have kk := k1.trans (k2.trans k3)
    have fin : ∀ (X Y : Int) (H' : Hp), 0 ≤ X → 0 ≤ Y → X + Y ≠ 0 → X ≤ n + 3 → Y ≤ n + 3 → Bag H' b → Kp b H H' → ∀ p, H' p = none → Q (.ref p) (upd H' p (.tup [.int X, .int Y])) := fun X Y H' h1 h2 h3 h4 h5 B' k' p hp => by
      refine k _ X.toNat Y.toNat _ ⟨p, rfl, SqT.of ?_⟩ (by omega) (by omega) (by omega) (B'.keep (same_new hp)) (k'.new hp)
      rw [upd_same, show ((X.toNat : Nat) : Int) = X by omega, show ((Y.toNat : Nat) : Int) = Y by omega]
    have s2 : 2 ≤ sizeLine := by decide
    refine ⟨_, rfl, rfl, _, rfl, ?_⟩
    refine ite2 (fun _ => ⟨_, rfl, s2, fin _ _ H3 (by omega) (by omega) (by omega) (by omega) (by omega) B3 kk⟩) (fun _ => ?_)
    refine ⟨_, rfl, rfl, _, rfl, ?_⟩
    refine ite2 (fun _ => ⟨_, rfl, s2, fin _ _ H3 (by omega) (by omega) (by omega) (by omega) (by omega) B3 kk⟩) (fun _ => ?_)
    refine ⟨_, rfl, rfl, _, rfl, ?_⟩
    refine ite2 (fun _ => ⟨_, rfl, _, rfl, s2, fin _ _ H3 (by omega) (by omega) (by omega) (by omega) (by omega) B3 kk⟩) (fun _ => ?_)
    refine ⟨_, rfl, rfl, _, rfl, ?_⟩
    refine ite2 (fun _ => ⟨_, rfl, _, rfl, b, _, rfl, B3, by decide, by decide, fun z H4 z0 z1 B4 k4 => ⟨_, _, rfl, rfl, s2, fin _ _ H4 (by omega) (by omega) (by omega) (by omega) (by omega) B4 (kk.trans k4)⟩⟩) (fun _ => ?_)
    refine ⟨_, rfl, rfl, _, rfl, ?_⟩
    refine ite2 (fun _ => ⟨_, rfl, b, _, rfl, B3, by decide, by decide, fun z H4 z0 z1 B4 k4 => ⟨_, _, rfl, rfl, _, rfl, s2, fin _ _ H4 (by omega) (by omega) (by omega) (by omega) (by omega) B4 (kk.trans k4)⟩⟩) (fun _ => ?_)
    exact ⟨_, rfl, _, rfl, s2, fin _ _ H3 (by omega) (by omega) (by omega) (by omega) (by omega) B3 kk⟩

/-! ### _law_bag -/
/-- a new bag -/
def sp__law_bag (K : PySem.W.Frag) : Sp := fun vs H Q _ => ∃ (a : Addr) (ns : List Int), vs = [.ref a] ∧ SqL K H a (ns.map V.int) ∧ ns.length ≤ 63 ∧ ∀ (b : Addr) (H' : Hp), H b = none → Bag H' b → Same H H' → Q (.ref b) H'

theorem sc__law_bag : FnScope ["script", "salt", "cell"] ["script"] (defScope s__law_bag) := ⟨rfl, rfl, rfl, by decide +kernel, rfl, by decide +kernel, by decide +kernel⟩
theorem ok__law_bag (E : En K mg) : Good P w K mg base CX0 1 "_law_bag" ["script"] (sp__law_bag K) := by
  obtain ⟨fd, F⟩ := E.says.def_ 11 (d := d__law_bag) rfl
  refine ⟨fd, ?_, F.bindsN fun _ _ _ _ _ _ us hl => match us, hl with | [_], _ => rfl, F.kp, E.gl "_law_bag"⟩
  refine F.ok sc__law_bag (fun vs H Q E' h => ?_) (fun cdv A outer s H vs Q E' hr h => ?_)
  · obtain ⟨a, ns, rfl, _⟩ := h; rfl
  · have hu64 := hu64_of hr
    refine ⟨_, PSs.nox (pss_cons (ps_set (i := 1) sc__law_bag.nd rfl (by first | exact Or.inl rfl | exact Or.inr rfl) pe_int)
      (pss_cons (ps_for PassesOwn.never rfl (pi_list (pe_slice sl_list (pv 0) po_none (po_some pe_int))) (pg_name (i := 2) sc__law_bag.nd rfl (by first | exact Or.inl rfl | exact Or.inr rfl))
        (pss_one (ps_set (i := 1) sc__law_bag.nd rfl (by first | exact Or.inl rfl | exact Or.inr rfl) (pe_op op_mod (pe_callTy call_int1 (by rfl) (E.fr "int") (by decide +kernel) (pa_cons (pe_op op_add (pe_op op_add (pe_op op_mul (pv 1) pe_int) (pe_op op_mod (pe_callTy call_int1 (by rfl) (E.fr "int") (by decide +kernel) (pa_cons (pv 2) pa_nil)) pe_int)) pe_int) pa_nil)) pe_int))))
      (pss_one (ps_ret (pe_lst (pa_cons (pe_callTy call_list_of (by rfl) (E.fr "list") (by decide +kernel) (pa_cons (pe_slice sl_list (pv 0) po_none (po_some pe_int)) pa_nil)) (pa_cons pe_int (pa_cons pe_int (pa_cons (pv 1) pa_nil))))))))), ?_⟩
    obtain ⟨a, ns, rfl, hS, hl, k⟩ := h
    have hl' : (ns.map V.int).length ≤ 63 := by rw [List.length_map]; exact hl
    refine ⟨_, rfl, 63, rfl, a, _, rfl, hS, fun p hp => ?_⟩
    rw [cut63 hl']
    refine ⟨p, rfl, ⟨_, SqL.of upd_same⟩, for_list (K := K) (a := p) (xs := ns.map V.int) (fun i σ H' => ∃ (s : Int) (v : Option V), σ = [some (.ref a), some (.int s), v] ∧ 0 ≤ s ∧ s < 2147483647 ∧ Same (upd H p (.lst (ns.map V.int))) H')
      ⟨3828, none, rfl, by decide, by decide, Same.refl _⟩ (fun i σ H' _ ⟨_, _, _, _, _, e⟩ => SqL.of (e _ _ upd_same)) ?_ ?_⟩
    · rintro i x σ H' hx ⟨s, v, rfl, h0, h1, e⟩
      obtain ⟨z, rfl⟩ : ∃ z, x = V.int z := by
        rw [List.getElem?_map] at hx
        cases q : ns[i]? with
        | none => rw [q] at hx; cases hx
        | some z => rw [q] at hx; exact ⟨z, (Option.some.inj hx).symm⟩
      refine ⟨_, rfl, _, _, rfl, rfl, .inr ⟨by decide, by decide⟩, _, rfl, .inl ⟨_, rfl, _, _, rfl, rfl, (by show (0 : Int) < _; decide), _, _, rfl, rfl, _, _, rfl, rfl, .inl ⟨_, rfl, _, _, rfl, rfl, (by show (0 : Int) < _; decide), ?_⟩⟩⟩
      have q := emod_bd (s * 45053 + z % 2147483563 + 23) (m := 2147483647) (by decide)
      exact ⟨_, some (.int z), rfl, q.1, q.2, e⟩
    · rintro σ H' ⟨s, v, rfl, h0, h1, e⟩
      have e1 : Same H H' := fun b o q => e b o (by rw [upd_ne (ne_of_none q hp)]; exact q)
      refine ⟨_, rfl, 63, rfl, a, _, rfl, e1.seq hS, fun p2 hp2 => ?_⟩
      rw [cut63 hl']
      refine ⟨p2, _, rfl, .inl (SqL.of upd_same), fun p3 hp3 => ?_⟩
      refine ⟨_, rfl, (by show 4 ≤ sizeLine; decide), fun b hb => ?_⟩
      have n32 : p3 ≠ p2 := fun z => by rw [z, upd_same] at hp3; cases hp3
      have nb3 : b ≠ p3 := fun z => by rw [z, upd_same] at hb; cases hb
      have hp3' : H' p3 = none := by rw [upd_ne n32] at hp3; exact hp3
      have hb2 : (upd H' p2 (.lst (ns.map V.int))) b = none := by rw [upd_ne nb3] at hb; exact hb
      have e2 : Same H' (upd (upd (upd H' p2 (.lst (ns.map V.int))) p3 (.lst (ns.map V.int))) b (.lst [.ref p3, .int 0, .int 0, .int s])) :=
        (same_new hp2).trans ((same_new hp3).trans (same_new hb))
      refine k b _ ?_ ⟨p3, ns, 0, 0, s, upd_same, ?_, nb3, hl, by decide, by decide, h0, h1⟩ (e1.trans e2)
      · have z : H' b = none := Same.free (same_new hp2) hb2
        exact Same.free e1 z
      · rw [upd_ne nb3.symm, upd_same]

/-! ### law -/
def sp_law (K : PySem.W.Frag) : Sp := fun vs H Q _ => ∃ (a : Addr) (ns : List Int), vs = [.ref a] ∧ SqL K H a (ns.map V.int) ∧ ns.length ≤ 63 ∧ ∀ H', Q (.bl true) H'
theorem sp_law_holds {K : PySem.W.Frag} (H : Hp) (a : Addr) (ns : List Int) (hl : ns.length ≤ 63) (hS : SqL K H a (ns.map V.int)) : sp_law K [.ref a] H (fun v _ => v = .bl true) fun _ _ _ => False := ⟨a, ns, rfl, hS, hl, fun _ => rfl⟩
theorem R_10_4 : R 10 4 = [(true, 2), (false, 1)] := by
  rw [R_x (x := 10) (y := 4) (by decide) (by decide), R_y (x := 10 - (10 - 1) / 4 * 4) (y := 4) (by decide) (by decide), R_nil (by decide)]
theorem R_5_5 : R 5 5 = [] := R_nil (by decide)

theorem sc_law : FnScope ["script", "bag", "turn", "near", "far", "told", "run", "a", "b"] ["script"] (defScope s_law) := ⟨rfl, rfl, rfl, by decide +kernel, rfl, by decide +kernel, by decide +kernel⟩
theorem ok_law {fd : FuncData} (F : FunD K "law" "law" (defArgs s_law) (defBody s_law) (defScope s_law) [] [] (He.ga K "law") fd) (E : En K mg) (G_runs : Good P w K mg base CX0 4 "runs" ["pair"] (sp_runs K)) (G__law_same : Good P w K mg base CX0 12 "_law_same" ["found", "due"] (sp__law_same K)) (G__law_runs : Good P w K mg base CX0 1 "_law_runs" ["pair"] (sp__law_runs K)) (G__law_letters : Good P w K mg base CX0 1 "_law_letters" ["pair"] (sp__law_letters K)) (G__law_far_pair : Good P w K mg base CX0 3 "_law_far_pair" ["bag"] (sp__law_far_pair K)) (G__law_pair : Good P w K mg base CX0 2 "_law_pair" ["bag", "top_z"] (sp__law_pair K)) (G__law_bag : Good P w K mg base CX0 1 "_law_bag" ["script"] (sp__law_bag K)) : FnOk P w K mg base CX0 13 (He.ga K "law") fd ["script"] (sp_law K) := by
  refine F.ok sc_law (fun vs H Q E' h => ?_) (fun cdv A outer s H vs Q E' hr h => ?_)
  · obtain ⟨a, ns, rfl, _⟩ := h; rfl
  · have hu64 := hu64_of hr
    refine ⟨_, PSs.nox (pss_cons (ps_set (i := 1) sc_law.nd rfl (by first | exact Or.inl rfl | exact Or.inr rfl) (pe_G G__law_bag (hr.mono (by decide)) rfl pass0 (pa_cons (pv 0) pa_nil)))
      (pss_cons (ps_for PassesOwn.never rfl (pi_range1 rfl (E.fr "range") (pa_cons pe_int pa_nil)) (pg_name (i := 2) sc_law.nd rfl (by first | exact Or.inl rfl | exact Or.inr rfl))
        (pss_cons (ps_par (i := 3) (j := 4) rfl sc_law.nd rfl rfl (by decide) rfl rfl (pa_cons (pe_G G__law_pair (hr.mono (by decide)) rfl pass0 (pa_cons (pv 1) (pa_cons pe_int pa_nil))) (pa_cons (pe_G G__law_far_pair (hr.mono (by decide)) rfl pass0 (pa_cons (pv 1) pa_nil)) pa_nil)) rfl)
      (pss_cons (ps_set (i := 5) sc_law.nd rfl (by first | exact Or.inl rfl | exact Or.inr rfl) (pe_G G_runs (hr.mono (by decide)) rfl pass0 (pa_cons (pv 3) pa_nil)))
      (pss_cons (ps_if (pt_cmpR op_ne (pe_join pe_str (pe_lc (own := [("run", 6)]) (by rfl) sc_law.nd (pi_list (pv 5)) (blkOk_by (N := ["script", "bag", "turn", "near", "far", "told", "run", "a", "b"]) (sc := defScope s_law) (by decide +kernel)) (by exact fun _ _ _ _ _ => (pg_name (i := 6) sc_law.nd rfl (by first | exact Or.inl rfl | exact Or.inr rfl))) (by exact fun _ _ _ _ _ => pts_nil) (by exact fun _ _ _ _ _ => (pe_op op_mul_str (pe_ix (show IxR _ (rIxT K) from ix_tup) (pv 6) pe_int (fun _ _ => rfl)) (pe_ix (show IxR _ (rIxT K) from ix_tup) (pv 6) pe_int (fun _ _ => rfl)))))) (pe_G G__law_letters (hr.mono (by decide)) rfl pass0 (pa_cons (pv 3) pa_nil)) (nomark _))
        (pss_one (ps_ret pe_bl))
        pss_nil)
      (pss_cons (ps_if (pt_not (pt_val (pe_G G__law_same (hr.mono (by decide)) rfl pass0 (pa_cons (pe_lst (pa_cons (pv 5) (pa_cons (pe_G G_runs (hr.mono (by decide)) rfl pass0 (pa_cons (pv 4) pa_nil)) pa_nil))) (pa_cons (pe_lst (pa_cons (pe_G G__law_runs (hr.mono (by decide)) rfl pass0 (pa_cons (pv 3) pa_nil)) (pa_cons (pe_G G__law_runs (hr.mono (by decide)) rfl pass0 (pa_cons (pv 4) pa_nil)) pa_nil))) pa_nil)))))
        (pss_one (ps_ret pe_bl))
        pss_nil)
      (pss_cons (ps_expr (pe_bm PySem.F.plainAttrs_list PySem.F.slot_list_append PySem.F.type_list_append mt_append (pv 5) (pa_cons pe_non pa_nil)))
      (pss_cons (ps_if (pt_not (pt_val (pe_G G__law_same (hr.mono (by decide)) rfl pass0 (pa_cons (pe_G G_runs (hr.mono (by decide)) rfl pass0 (pa_cons (pv 3) pa_nil)) (pa_cons (pe_G G__law_runs (hr.mono (by decide)) rfl pass0 (pa_cons (pv 3) pa_nil)) pa_nil)))))
        (pss_one (ps_ret pe_bl))
        pss_nil)
      (pss_one (ps_if (pt_val (pe_callB (cr_any rfl) (by rfl) (E.fr "any") (by decide +kernel) (pa_cons (pe_lc (own := [("a", 7), ("b", 8)]) (by rfl) sc_law.nd (RZ.pi_zipA (by rfl) (E.fr "zip") (pa_cons (pe_G G_runs (hr.mono (by decide)) rfl pass0 (pa_cons (pv 4) pa_nil)) (pa_cons (pe_slice sl_list (pe_G G_runs (hr.mono (by decide)) rfl pass0 (pa_cons (pv 4) pa_nil)) (po_some pe_int) po_none) pa_nil))) (blkOk_by (N := ["script", "bag", "turn", "near", "far", "told", "run", "a", "b"]) (sc := defScope s_law) (by decide +kernel)) (by exact fun _ _ _ _ _ => (show PG _ _ (gTup K 2 _) from pg_tup (n := 2) rfl (pgs_cons (pg_name (i := 7) sc_law.nd rfl (by first | exact Or.inl rfl | exact Or.inr rfl)) (pgs_cons (pg_name (i := 8) sc_law.nd rfl (by first | exact Or.inl rfl | exact Or.inr rfl)) pgs_nil)))) (by exact fun _ _ _ _ _ => pts_nil) (by exact fun _ _ _ _ _ => (pe_cmpR op_eq (pe_ix (show IxR _ (rIxT K) from ix_tup) (pv 7) pe_int (fun _ _ => rfl)) (pe_ix (show IxR _ (rIxT K) from ix_tup) (pv 8) pe_int (fun _ _ => rfl)) (nomark _)))) pa_nil)))
        (pss_one (ps_ret pe_bl))
        pss_nil)))))))))
      (pss_one (ps_ret (pe_and (pe_cmpR (op_eqD hu64) (pe_G G_runs (hr.mono (by decide)) rfl pass0 (pa_cons (pe_tup (pa_cons pe_int (pa_cons pe_int pa_nil))) pa_nil)) (pe_lst (pa_cons (pe_tup (pa_cons pe_str (pa_cons pe_int pa_nil))) (pa_cons (pe_tup (pa_cons pe_str (pa_cons pe_int pa_nil))) pa_nil))) (nomark _)) (pe_one (pe_cmpR (op_eqD hu64) (pe_G G_runs (hr.mono (by decide)) rfl pass0 (pa_cons (pe_tup (pa_cons pe_int (pa_cons pe_int pa_nil))) pa_nil)) (pe_lst pa_nil) (nomark _)))))))), ?_⟩
    obtain ⟨a, ns, rfl, hS, hl, k⟩ := h
    refine ⟨_, rfl, a, ns, rfl, hS, hl, fun b H1 hb B e1 => ?_⟩
    have s2 : 2 ≤ sizeLine := by decide
    refine ⟨10, rfl, by decide, by decide, for_range (lo := 0) (n := 10) (fun _ σ H' => ∃ s2 s3 s4 s5 s6 s7 s8 : Option V, σ = [some (.ref a), some (.ref b), s2, s3, s4, s5, s6, s7, s8] ∧ Bag H' b) ⟨_, _, _, _, _, _, _, rfl, B⟩ ?_ ?_⟩
    · rintro i σ H2 _ ⟨_, _, _, _, _, _, _, rfl, B2⟩
      refine ⟨_, rfl, b, 60, rfl, B2, by decide, by decide, fun vn x y H3 hN nN hx hy B3 k3 => ?_⟩
      refine ⟨_, rfl, b, rfl, B3, fun vf u w H4 hF okF B4 k4 => ⟨_, _, rfl, ?_⟩⟩
      have hN4 := hN.sameT (B3.sameT k4)
      have okN : okP x y := okP_small nN (by omega) (by omega)
      have hLl := L_le x y
      -- told = runs(near)
      refine ⟨_, rfl, vn, x, y, rfl, hN4, okN, fun f us H5 hf e5 hFl hD => ?_⟩
      -- ''.join([..]) != _law_letters(near)
      refine ⟨⟨_, rfl⟩, _, rfl, f, rfl, ⟨_, SqL.of hFl⟩, fun D hD0 => ?_⟩
      have ng : f ≠ D := ne_of_none hFl hD0
      have hl2 := DpAll.length hD
      rw [List.length_map] at hl2
      have h8 := R_len' okN
      refine lc_list (K := K) (a := f) (xs := us) (fun i H' => Same H5 H' ∧ DpAll K H' us ((R x y).map runD) ∧ H' D = some (.lst (((R x y).take i).map fun r => V.str (rep (letS r.1) r.2))))
        ⟨same_new hD0, Dp.sameAll (same_new hD0) hD, upd_same⟩ (fun i H' _ q => SqL.of (q.1 _ _ hFl)) ?_ ?_
      · rintro i z H7 hz ⟨e7, g2, g3⟩
        obtain ⟨c, n, pz, hr, rfl, hpz⟩ := run_get g2 hz
        have hi : i < (R x y).length := (List.getElem?_eq_some_iff.mp hr).1
        have hn : n ≤ 126 := by
          have q := run_le hr
          rw [spell_R] at q
          exact Nat.le_trans q (by omega)
        refine ⟨rfl, _, rfl, pz, _, _, _, rfl, rfl, hpz, at2_0 _ _, _, rfl, pz, _, _, _, rfl, rfl, hpz, at2_1 _ _, _, _, rfl, rfl, by omega, by omega, ?_, _, g3, ?_, ?_⟩
        · rw [lets_len, Nat.one_mul]
          omega
        · rw [List.length_map, List.length_take]
          exact szl (by omega)
        · refine ⟨same_mut e7 hD0, Dp.sameTs (.put g3) (noLs_map noL_runD _) g2, ?_⟩
          rw [upd_same, List.take_add_one, hr, List.map_append]
          rfl
      · rintro H7 ⟨e7, g2, g3⟩
        rw [hl2, List.take_length] at g3
        have e47 : Same H4 H7 := e5.trans e7
        have hF7 : H7 f = some (.lst us) := e7 _ _ hFl
        have ej : PySem.Txt.join ("" : Str) ((R x y).map fun r => rep (letS r.1) r.2) = sgn (L x y) := by
          rw [show ("" : Str) = ⟨#[]⟩ by decide +kernel, join_runs, spell_R]
        refine ⟨_, D, (R x y).map fun r => rep (letS r.1) r.2, rfl, rfl, .inl (SqL.of (by rw [List.map_map]; exact g3)), ?_, ?_⟩
        · rw [rep_lens, spell_R, show ("" : Str).length = 0 by decide +kernel, Nat.mul_zero]
          omega
        refine ⟨_, rfl, vn, x, y, rfl, hN4.same e47, by omega, rfl, _, rfl, ?_⟩
        refine ite_f (by show (!decide (V.str _ = V.str _)) = false; rw [decide_eq_true (congrArg V.str ej)]; rfl) ?_
        -- if not _law_same([told, runs(far)], [_law_runs(near), _law_runs(far)])
        refine ⟨_, rfl, _, rfl, vf, u, w, rfl, hF.same e47, okF, fun f2 us2 H8 hf2 e8 hG2 hD2 => ⟨s2, fun l1 hl1 => ?_⟩⟩
        have e9 := e8.trans (same_new (o := .lst [.ref f, .ref f2]) hl1)
        refine ⟨_, rfl, vn, x, y, rfl, (hN4.same e47).same e9, okN, fun f3 us3 H10 hf3 e10 hG3 hD3 => ?_⟩
        refine ⟨_, rfl, vf, u, w, rfl, ((hF.same e47).same e9).same e10, okF, fun f4 us4 H11 hf4 e11 hG4 hD4 => ⟨s2, fun l2 hl3 => ?_⟩⟩
        have e12 := e11.trans (same_new (o := .lst [.ref f3, .ref f4]) hl3)
        have e13 := (same_new (o := .lst [.ref f, .ref f2]) hl1).trans (e10.trans e12)
        have e14 := e8.trans e13
        refine ⟨.ref l1, .ref l2, .list [runsD (R x y), runsD (R u w)], rfl, .lst (SqL.of ((e10.trans e12) _ _ upd_same)) (.cons (Dp_runs (SqL.of (e14 _ _ hF7)) (Dp.sameAll e14 g2)) (.cons (Dp_runs (SqL.of (e13 _ _ hG2)) (Dp.sameAll e13 hD2)) .nil)),
          .lst (SqL.of upd_same) (.cons (Dp_runs (SqL.of (e12 _ _ hG3)) (Dp.sameAll e12 hD3)) (.cons (Dp_runs (SqL.of (same_new hl3 _ _ hG4)) (Dp.sameAll (same_new hl3) hD4)) .nil)), ?_, ?_, fun H15 e15 => ⟨true, rfl, ?_⟩⟩
        · have q1 := runsD_depth (R x y)
          have q2 := runsD_depth (R u w)
          simp only [PyData.depth, PyData.depthAll]
          omega
        · exact smallL (by show 2 ≤ 90000; decide) (by rw [smallDs, smallDs, runsD_small okN, runsD_small okF]; rfl)
        refine ite_f rfl ?_
        -- told.append(None)
        have e415 : Same H4 H15 := e47.trans (e14.trans e15)
        have hF15 : H15 f = some (.lst us) := e15 _ _ (e14 _ _ hF7)
        refine ⟨_, rfl, .inl ⟨rfl, _, SqL.of hF15⟩, f, us, .non, rfl, rfl, hF15, szl (by omega), ?_⟩
        have e16 : Same H4 (upd H15 f (.lst (us ++ [.non]))) := same_mut e415 hf
        -- if not _law_same(runs(near), _law_runs(near))
        refine ⟨_, rfl, vn, x, y, rfl, hN4.same e16, okN, fun f5 us5 H17 hf5 e17 hG5 hD5 => ?_⟩
        refine ⟨_, rfl, vn, x, y, rfl, (hN4.same e16).same e17, okN, fun f6 us6 H18 hf6 e18 hG6 hD6 => ?_⟩
        refine ⟨_, _, runsD (R x y), rfl, Dp_runs (SqL.of (e18 _ _ hG5)) (Dp.sameAll e18 hD5), Dp_runs (SqL.of hG6) hD6, Nat.lt_of_le_of_lt (runsD_depth _) (by decide), runsD_small okN, fun H19 e19 => ⟨true, rfl, ?_⟩⟩
        refine ite_f rfl ?_
        have e419 : Same H4 H19 := e16.trans (e17.trans (e18.trans e19))
        -- any([a[0] == b[0] for a, b in zip(runs(far), runs(far)[1:])])
        refine ⟨_, rfl, vf, u, w, rfl, hF.same e419, okF, fun f7 us7 H20 hf7 e20 hG7 hD7 => ?_⟩
        refine ⟨_, rfl, vf, u, w, rfl, (hF.same e419).same e20, okF, fun f8 us8 H21 hf8 e21 hG8 hD8 => ⟨1, rfl, f8, us8, rfl, SqL.of hG8, fun p hp => ?_⟩⟩
        have e22 := same_new (o := .lst (cutV us8 (some 1) none)) hp
        refine ⟨f7, p, us7, cutV us8 (some 1) none, rfl, .inl ⟨SqL.of (e22 _ _ (e21 _ _ hG7)), SqL.of upd_same, fun D2 hD2' => ?_⟩⟩
        refine lc_it (walk_zip rfl) (fun i H' => Same (upd H21 p (.lst (cutV us8 (some 1) none))) H' ∧ H' D2 = some (.lst (List.replicate i (V.bl false)))) ⟨same_new hD2', upd_same⟩ (fun i H' _ q => ⟨SqL.of (q.1 _ _ (e22 _ _ (e21 _ _ hG7))), SqL.of (q.1 _ _ upd_same)⟩) ?_ ?_
        · rintro i z H23 H24 hi ⟨e23, g5⟩ ⟨T, z1, z2, rfl, hT, rfl, q1, q2⟩
          have e24 := e22.trans (e23.trans (same_new (o := .tup [z1, z2]) hT))
          dsimp only at q2; rw [cut_from1, List.getElem?_drop] at q2
          obtain ⟨c1, n1, p1, r1, rfl, t1⟩ := run_get (Dp.sameAll (e21.trans e24) hD7) q1
          obtain ⟨c2, n2, p2, r2, rfl, t2⟩ := run_get (Dp.sameAll e24 hD8) q2
          rw [Nat.add_comm] at r2
          have nc := R_alt u w i _ _ r1 r2
          refine ⟨T, _, rfl, SqT.of upd_same, rfl, _, _, rfl, _, _, rfl, rfl, rfl, _, rfl, p1, _, _, _, rfl, rfl, t1, at2_0 _ _, _, rfl, p2, _, _, _, rfl, rfl, t2, at2_0 _ _, rfl, ?_⟩
          refine ⟨_, by rw [upd_ne (ne_of_none g5 hT)]; exact g5, ?_, same_mut (e23.trans (same_new hT)) hD2', ?_⟩
          · rw [List.length_replicate]
            have q7 := DpAll.length hD7
            rw [List.length_map] at q7
            have q8 := R_len' okF
            exact szl (by omega)
          · rw [upd_same, List.replicate_succ', letS_inj nc]
        · rintro H23 ⟨e23, g5⟩
          refine ⟨D2, List.replicate _ false, rfl, SqL.of (by rw [List.map_replicate]; exact g5), false, ?_, ite_f rfl ⟨_, _, _, _, _, _, _, rfl, ?_⟩⟩
          · rw [show (List.replicate _ false).any id = false by simp]
          · exact B4.keep (e419.trans (e20.trans (e21.trans (e22.trans e23))))
    · rintro σ H2 ⟨_, _, _, _, _, _, _, rfl, B2⟩
      refine ⟨s2, fun p1 h1 => ⟨_, 10, 4, rfl, ⟨p1, rfl, SqT.of upd_same⟩, okP_small (by decide) (by decide) (by decide), fun f us H3 hf e3 hG hD => ?_⟩⟩
      refine ⟨s2, fun p2 h2 => ⟨s2, fun p3 h3 => ⟨s2, fun l hl => ?_⟩⟩⟩
      have e4 := (same_new (o := .tup [.str "X", .int 2]) h2).trans ((same_new (o := .tup [.str "Y", .int 1]) h3).trans (same_new (o := .lst [.ref p2, .ref p3]) hl))
      rw [R_10_4] at hD
      refine ⟨runsD [(true, 2), (false, 1)], runsD [(true, 2), (false, 1)], Dp_runs (SqL.of (e4 _ _ hG)) (Dp.sameAll e4 hD),
        .lst (SqL.of upd_same) (.cons (.tup (SqT.of (same_new hl _ _ (same_new h3 _ _ upd_same))) (.cons (.str _) (.cons (.int _) .nil))) (.cons (.tup (SqT.of (same_new hl _ _ upd_same)) (.cons (.str _) (.cons (.int _) .nil))) .nil)), by decide +kernel, by decide +kernel, _, rfl, ?_⟩
      refine ite_t (by decide +kernel) ?_
      refine ⟨s2, fun p4 h4 => ⟨_, 5, 5, rfl, ⟨p4, rfl, SqT.of upd_same⟩, okP_small (by decide) (by decide) (by decide), fun f' us' H5 hf' e5 hG' hD' => ?_⟩⟩
      rw [R_5_5] at hD'
      refine ⟨(by show 0 ≤ sizeLine; decide), fun l' hl' => ?_⟩
      refine ⟨.list [], .list [], .lst (SqL.of (same_new hl' _ _ hG')) (Dp.sameAll (same_new hl') hD'), .lst (SqL.of upd_same) .nil, by decide +kernel, by decide +kernel, ?_⟩
      rw [show PyData.eqv (.list []) (.list []) = true by decide +kernel]
      exact k _

end
theorem all (P : Program) (w : World) (base : Heap) {K : PySem.W.Frag} {mg : Str → Option Value} {fd : FuncData} (E : En K mg) (F : FunD K "law" "law" (defArgs s_law) (defBody s_law) (defScope s_law) [] [] (He.ga K "law") fd) :
    FnOk P w K mg base CX0 13 (He.ga K "law") fd ["script"] (sp_law K) := by
  have G_is_number := ok_is_number (P := P) (w := w) (base := base) E
  have G_is_pair := ok_is_pair (P := P) (w := w) (base := base) E G_is_number
  have G_need_pair := ok_need_pair (P := P) (w := w) (base := base) E G_is_pair
  have G_runs := ok_runs (P := P) (w := w) (base := base) E G_need_pair
  have G__law_same := ok__law_same (P := P) (w := w) (base := base) E
  have G__law_runs := ok__law_runs (P := P) (w := w) (base := base) E
  have G__law_letters := ok__law_letters (P := P) (w := w) (base := base) E
  have G__law_pull := ok__law_pull (P := P) (w := w) (base := base) E
  have G__law_of := ok__law_of (P := P) (w := w) (base := base) E G__law_pull
  have G__law_far_pair := ok__law_far_pair (P := P) (w := w) (base := base) E G__law_pull G__law_of
  have G__law_pair := ok__law_pair (P := P) (w := w) (base := base) E G__law_pull
  have G__law_bag := ok__law_bag (P := P) (w := w) (base := base) E
  exact ok_law F E G_runs G__law_same G__law_runs G__law_letters G__law_far_pair G__law_pair G__law_bag
abbrev Rw : PySem.W.OpenRow := PySem.W.OpenLaw.row PySem.Challenge.rw_addpath_k02_runs_of_paths
abbrev hk : PySem.W.Hook := He.hookD 4 fal fnl
def ob (s : PySem.W.SharedT) : He.AlD := He.obsDG 4 fal fnl (HandSHeadRun.getT s)
theorem ob_eq (s : PySem.W.SharedT) : ob s = hk.obs s.abs := He.obsDG_eq (HandSHeadRun.getT_eq s)
def loose : List Str := ["PathError", "InvalidPair", "is_number", "is_pair", "need_pair", "runs", "_law_bag", "_law_pull", "_law_of", "_law_same", "_law_pair", "_law_runs", "_law_letters", "_law_far_pair"]
theorem run (w : World) : HandSHeadRun.RunEq Rw (PySem.W.view Rw.prog [18]) hk ob 3000 loose w := by
  intro os
  kernel_rfl
end Lw
open PySem PySem.W PySem.Calls PyProof.Rows
set_option maxRecDepth 100000 in
set_option maxHeartbeats 0 in
theorem PySem.Challenge.cw_addpath_k02_runs_of_paths_holds : PySem.Challenge.rw_addpath_k02_runs_of_paths.Holds := by
  w_on; o_law
  refine HandSHeadRun.head_any (r := OpenLaw.row PySem.Challenge.rw_addpath_k02_runs_of_paths) (q := view (OpenLaw.row PySem.Challenge.rw_addpath_k02_runs_of_paths).prog [18]) (H := Lw.hk) (ob := Lw.ob) (M := 3000) (loose := Lw.loose) (d := HandSHeadRun.topDef (OpenLaw.row PySem.Challenge.rw_addpath_k02_runs_of_paths).prog 18) (kwd := []) Lw.ob_eq
    (by kernel_rfl) (fun s => by kernel_rfl) Lw.run (by kernel_rfl) (by kernel_rfl) (by kernel_rfl) (by rfl) (by first | assumption | decide +kernel) (by decide +kernel) ⟨rfl, rfl, rfl, rfl, rfl, by decide +kernel⟩ ?hw ?hc
  case hw => w_witness2
  case hc =>
    refine L2.walk_ofE (l := PySem.Challenge.rw_addpath_k02_runs_of_paths) (n := 63) (k := 13) (x := "script") (CX := L2.CX0) rfl (by decide) (by kernel_rfl) ⟨rfl, by decide, by decide⟩ ?F (fun _ _ _ _ z => z)
    intro w mg fa h Y G hmg0
    obtain ⟨K, KX, c⟩ := Y
    have hmg : mg ("law" : PySem.Str) = some (.ref fa) := by
      have e : (HandSHeadRun.topDef (OpenLaw.row PySem.Challenge.rw_addpath_k02_runs_of_paths).prog 18).name = ("law" : PySem.Str) := by kernel_rfl
      rw [← e]
      exact hmg0
    exact Bx.closing (sp := Lw.sp_law) KX G hmg c (fun E => Lw.En.gl E "law") (c.def_ 12 (d := Lw.d_law) rfl) (fun base fd E F => Lw.all _ w base E F) (fun F s v => L2.FunD.bindsA (ps := ["script"]) F (fun _ _ _ _ _ _ us hl => match us, hl with | [_], _ => rfl) s [v] rfl)
      (fun H a ns hl hS => Lw.sp_law_holds H a ns hl hS)
#print axioms PySem.Challenge.cw_addpath_k02_runs_of_paths_holds
