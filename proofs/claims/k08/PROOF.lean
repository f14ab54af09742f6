import PyProof.Rows.All
import Wide.All
import OpenK.AllK
import Wide.FinOn
import HandS.ForMost
import HandS.Exc
import HandS.TryOnly
import HandS.ExcOwn
import HandS.WordsExc
import HandS.Lambda
import HandS.EndTab
import HandS.EndOwn
import HandS.Wide
import HandS.IsInst
import HandS.ExcIs
import HandS.Defaults
import HandS.SortInts
import HandS.SortKw
import HandS.Strs
import HandS.SetFor
import HandS.SortRule
import HandS.Sort
import HandS.Slots
import KE.SortKeyed
import HandS.Conv
import KE.KDictList
import KE.KEqDict
import PySem.Challenge.RW_wraptime_k08_orders_within_a_span
set_option Elab.async false
set_option linter.all false
set_option maxRecDepth 100000
set_option maxHeartbeats 4000000
set_option Elab.async false
set_option linter.all false
set_option maxRecDepth 100000
set_option maxHeartbeats 4000000
namespace My
open PySem PySem.Spec PyProof.Rows L2
open LamX (Tabs TabS CodeO ExtN)
/-! ### what is known of a def -/
structure Knows (P : Program) (w : World) (K : PySem.W.Frag) (mg : Str → Option Value) (base : Heap) (k : Nat) (x : Str) (ps : List Str) (sp : Sp) : Prop where
  ex : ∃ (f : Addr) (fd : FuncData), FnOk P w K mg base (L2.CX P w) k f fd ps sp ∧ mg x = some (.ref f) ∧ PySem.W.keepIn K (.ref f) = true ∧ Binds K fd ps []
structure DefAt (K : PySem.W.Frag) (mg : Str → Option Value) (x : Str) (st : Stmt) (f : Addr) (fd : FuncData) : Prop where
  fn : Fun K x x st f fd
  g : mg x = some (.ref f)
structure ExcAt (K : PySem.W.Frag) (mg : Str → Option Value) (x : Str) (C : Addr) : Prop where
  g : mg x = some (.ref C)
  x : PySem.W.excIn K C [.type "ValueError", .type "Exception", .type "BaseException", .type "object"] "ValueError.__new__" = true
  k : PySem.W.keepIn K (.ref C) = true
  b : PySem.W.subIn K (.ref C) (.type "BaseException") = some true
  t : PySem.W.typeIn K (.ref C) = some (.type "type")
theorem pe_callN {X : Cx} {k : Nat} {x : Str} {ps : List Str} {sp : Sp} {E : XK} {p pos : Pos} {e : Expr} {es : List Expr} {t : TA} (c : Knows X.prog X.w X.K X.mg X.base k x ps sp) (hr : Room k X.A) (hx : Passes (L2.CX X.prog X.w) X E)
    (ha : PA X (e :: es) t) (hg : Gl X x := by rfl) (hdb : (x == ("__debug__" : Str)) = false := by decide) (he : starEach (e :: es) X.env = (false, eval e X.env) :: starEach es X.env := by rfl) (hpl : (backTo pos (starEach es X.env)).any (·.1) = false := by rfl) :
    PE X (.Call (.Name x p) (e :: es) [] pos) (tCall sp [] E t) := by
  obtain ⟨f, fd, F, hm, hk, hb⟩ := c.ex
  exact pe_call F hr hg hm hk hb .nil hx ha hdb he hpl
section
variable {P : Program} {w : World} {K : PySem.W.Frag} {mg : Str → Option Value} {base : Heap} {N : List Str} {qual : Str} {scope : Scope} {f : Addr} {cd : Value} {A : Around} {outer : List Env} {s : Shared} {H : Hp} {E : XK}
theorem takesD : Takes (cxOf (L2.CX P w) P w K mg base N qual scope f cd A outer s H E) (fun cls d _ H => E cls d H) := takes_of rfl rfl rfl rfl
theorem passD : Passes (L2.CX P w) (cxOf (L2.CX P w) P w K mg base N qual scope f cd A outer s H E) E := passes_call takesD (fun _ _ _ _ h => h)
theorem passO : PassesOwn (model P w) (A.deeper (envOfC qual scope s.heap.objs.size f cd)) (envOfC qual scope s.heap.objs.size f cd) (cxOf (L2.CX P w) P w K mg base N qual scope f cd A outer s H E).xe := PassesOwn.leaving
theorem ps_raiseN {x m : Str} {C : Addr} {j : Nat} {p p2 pos pos2 : Pos} (e : ExcAt K mg x C) (hg : Gl (cxOf (L2.CX P w) P w K mg base N qual scope f cd A outer s H E) x := by rfl) (hdb : (x == ("__debug__" : Str)) = false := by decide) :
    PS (cxOf (L2.CX P w) P w K mg base N qual scope f cd A outer s H E) (.Raise (some (.Call (.Name x p) [.Constant (.str m) j p2] [] pos)) none pos2) (fun _ _ H' => E (.ref C) none H') :=
  ps_raise rfl takesD (pmk_own PySem.F.excBase_ValueError e.x e.g e.k (raises_own e.b e.t) hg hdb)
end
/-! ### rules by name -/
def rLenN (K : PySem.W.Frag) : List V → Hp → VK → Prop := fun xs H Q => ∃ (x : V) (n : Nat), xs = [x] ∧ LenV K x H n ∧ Q (.int n) H
theorem call_lenN {X : Cx} : CallR X (.builtin "len") (rLenN X.K) := call_len
def rMin2 : List V → Hp → VK → Prop := fun xs H Q => ∃ i j : Int, xs = [.int i, .int j] ∧ Q (.int (if j < i then j else i)) H
def rMax2 : List V → Hp → VK → Prop := fun xs H Q => ∃ i j : Int, xs = [.int i, .int j] ∧ Q (.int (if j > i then j else i)) H
theorem call_min2N {X : Cx} (hc : X.calm = true) : CallR X (.builtin "min") rMin2 := call_min2 hc
theorem call_max2N {X : Cx} (hc : X.calm = true) : CallR X (.builtin "max") rMax2 := call_max2 hc
def rAbs : List V → Hp → VK → Prop := fun xs H Q => ∃ i : Int, xs = [.int i] ∧ Q (.int (if i < 0 then -i else i)) H
theorem call_absN {X : Cx} : CallR X (.builtin "abs") rAbs := call_abs
def rInt1 : List V → Hp → VK → Prop := fun xs H Q => (∃ i : Int, xs = [.int i] ∧ Q (.int i) H) ∨ ∃ k : Bool, xs = [.bl k] ∧ Q (.int (if k then 1 else 0)) H
theorem call_intN {X : Cx} : CallR X (.type "int") rInt1 := call_int1
def rListOf (K : PySem.W.Frag) : List V → Hp → VK → Prop := fun xs H Q => ∃ (p : Addr) (ys : List V), xs = [.ref p] ∧ (SqL K H p ys ∨ SqT K H p ys) ∧ ∀ l, H l = none → Q (.ref l) (upd H l (.lst ys))
theorem call_listN {X : Cx} : CallR X (.type "list") (rListOf X.K) := call_list_of
def rIsN : R2 := fun x y H Q => y = .non ∧ Q (.bl (decide (x = .non))) H
def rNotN : R2 := fun x y H Q => y = .non ∧ Q (.bl (!decide (x = .non))) H
theorem op_isNN {X : Cx} : OpR X (compareOp .Is) rIsN := op_isN
theorem op_notNN {X : Cx} : OpR X (compareOp .IsNot) rNotN := op_notN
/-! ### a reading, step by step -/
section
variable {σ : L2.St} {H : Hp} {i : Nat} {v : V} {ta tb tc : TE} {t u : TT} {r r' : R2} {Q : VK} {QB : Bool → Hp → Prop} {QA : List V → Hp → Prop} {D : Ends} {g : TG} {a b : Int} {te : TE} {tl : TA} {s1 s2 : TS}
theorem g_var (h : σ[i]? = some (some v)) (q : Q v H) : tVar i σ H Q := ⟨v, h, q⟩
theorem g_var0 {r : L2.St} (q : Q v H) : tVar 0 (some v :: r) H Q := ⟨v, rfl, q⟩
theorem g_var1 {x0 : Option V} {r : L2.St} (q : Q v H) : tVar 1 (x0 :: some v :: r) H Q := ⟨v, rfl, q⟩
theorem g_var2 {x0 x1 : Option V} {r : L2.St} (q : Q v H) : tVar 2 (x0 :: x1 :: some v :: r) H Q := ⟨v, rfl, q⟩
theorem g_var3 {x0 x1 x2 : Option V} {r : L2.St} (q : Q v H) : tVar 3 (x0 :: x1 :: x2 :: some v :: r) H Q := ⟨v, rfl, q⟩
theorem g_var4 {x0 x1 x2 x3 : Option V} {r : L2.St} (q : Q v H) : tVar 4 (x0 :: x1 :: x2 :: x3 :: some v :: r) H Q := ⟨v, rfl, q⟩
theorem g_var5 {x0 x1 x2 x3 x4 : Option V} {r : L2.St} (q : Q v H) : tVar 5 (x0 :: x1 :: x2 :: x3 :: x4 :: some v :: r) H Q := ⟨v, rfl, q⟩
theorem g_var6 {x0 x1 x2 x3 x4 x5 : Option V} {r : L2.St} (q : Q v H) : tVar 6 (x0 :: x1 :: x2 :: x3 :: x4 :: x5 :: some v :: r) H Q := ⟨v, rfl, q⟩
theorem g_var7 {x0 x1 x2 x3 x4 x5 x6 : Option V} {r : L2.St} (q : Q v H) : tVar 7 (x0 :: x1 :: x2 :: x3 :: x4 :: x5 :: x6 :: some v :: r) H Q := ⟨v, rfl, q⟩
theorem g_var8 {x0 x1 x2 x3 x4 x5 x6 x7 : Option V} {r : L2.St} (q : Q v H) : tVar 8 (x0 :: x1 :: x2 :: x3 :: x4 :: x5 :: x6 :: x7 :: some v :: r) H Q := ⟨v, rfl, q⟩
theorem g_var9 {x0 x1 x2 x3 x4 x5 x6 x7 x8 : Option V} {r : L2.St} (q : Q v H) : tVar 9 (x0 :: x1 :: x2 :: x3 :: x4 :: x5 :: x6 :: x7 :: x8 :: some v :: r) H Q := ⟨v, rfl, q⟩
theorem g_var10 {x0 x1 x2 x3 x4 x5 x6 x7 x8 x9 : Option V} {r : L2.St} (q : Q v H) : tVar 10 (x0 :: x1 :: x2 :: x3 :: x4 :: x5 :: x6 :: x7 :: x8 :: x9 :: some v :: r) H Q := ⟨v, rfl, q⟩
theorem g_var11 {x0 x1 x2 x3 x4 x5 x6 x7 x8 x9 x10 : Option V} {r : L2.St} (q : Q v H) : tVar 11 (x0 :: x1 :: x2 :: x3 :: x4 :: x5 :: x6 :: x7 :: x8 :: x9 :: x10 :: some v :: r) H Q := ⟨v, rfl, q⟩
theorem g_var12 {x0 x1 x2 x3 x4 x5 x6 x7 x8 x9 x10 x11 : Option V} {r : L2.St} (q : Q v H) : tVar 12 (x0 :: x1 :: x2 :: x3 :: x4 :: x5 :: x6 :: x7 :: x8 :: x9 :: x10 :: x11 :: some v :: r) H Q := ⟨v, rfl, q⟩
theorem g_var13 {x0 x1 x2 x3 x4 x5 x6 x7 x8 x9 x10 x11 x12 : Option V} {r : L2.St} (q : Q v H) : tVar 13 (x0 :: x1 :: x2 :: x3 :: x4 :: x5 :: x6 :: x7 :: x8 :: x9 :: x10 :: x11 :: x12 :: some v :: r) H Q := ⟨v, rfl, q⟩
theorem g_var14 {x0 x1 x2 x3 x4 x5 x6 x7 x8 x9 x10 x11 x12 x13 : Option V} {r : L2.St} (q : Q v H) : tVar 14 (x0 :: x1 :: x2 :: x3 :: x4 :: x5 :: x6 :: x7 :: x8 :: x9 :: x10 :: x11 :: x12 :: x13 :: some v :: r) H Q := ⟨v, rfl, q⟩
theorem g_var15 {x0 x1 x2 x3 x4 x5 x6 x7 x8 x9 x10 x11 x12 x13 x14 : Option V} {r : L2.St} (q : Q v H) : tVar 15 (x0 :: x1 :: x2 :: x3 :: x4 :: x5 :: x6 :: x7 :: x8 :: x9 :: x10 :: x11 :: x12 :: x13 :: x14 :: some v :: r) H Q := ⟨v, rfl, q⟩
theorem g_var16 {x0 x1 x2 x3 x4 x5 x6 x7 x8 x9 x10 x11 x12 x13 x14 x15 : Option V} {r : L2.St} (q : Q v H) : tVar 16 (x0 :: x1 :: x2 :: x3 :: x4 :: x5 :: x6 :: x7 :: x8 :: x9 :: x10 :: x11 :: x12 :: x13 :: x14 :: x15 :: some v :: r) H Q := ⟨v, rfl, q⟩
theorem g_var17 {x0 x1 x2 x3 x4 x5 x6 x7 x8 x9 x10 x11 x12 x13 x14 x15 x16 : Option V} {r : L2.St} (q : Q v H) : tVar 17 (x0 :: x1 :: x2 :: x3 :: x4 :: x5 :: x6 :: x7 :: x8 :: x9 :: x10 :: x11 :: x12 :: x13 :: x14 :: x15 :: x16 :: some v :: r) H Q := ⟨v, rfl, q⟩
theorem g_var18 {x0 x1 x2 x3 x4 x5 x6 x7 x8 x9 x10 x11 x12 x13 x14 x15 x16 x17 : Option V} {r : L2.St} (q : Q v H) : tVar 18 (x0 :: x1 :: x2 :: x3 :: x4 :: x5 :: x6 :: x7 :: x8 :: x9 :: x10 :: x11 :: x12 :: x13 :: x14 :: x15 :: x16 :: x17 :: some v :: r) H Q := ⟨v, rfl, q⟩
theorem g_var19 {x0 x1 x2 x3 x4 x5 x6 x7 x8 x9 x10 x11 x12 x13 x14 x15 x16 x17 x18 : Option V} {r : L2.St} (q : Q v H) : tVar 19 (x0 :: x1 :: x2 :: x3 :: x4 :: x5 :: x6 :: x7 :: x8 :: x9 :: x10 :: x11 :: x12 :: x13 :: x14 :: x15 :: x16 :: x17 :: x18 :: some v :: r) H Q := ⟨v, rfl, q⟩
theorem g_var20 {x0 x1 x2 x3 x4 x5 x6 x7 x8 x9 x10 x11 x12 x13 x14 x15 x16 x17 x18 x19 : Option V} {r : L2.St} (q : Q v H) : tVar 20 (x0 :: x1 :: x2 :: x3 :: x4 :: x5 :: x6 :: x7 :: x8 :: x9 :: x10 :: x11 :: x12 :: x13 :: x14 :: x15 :: x16 :: x17 :: x18 :: x19 :: some v :: r) H Q := ⟨v, rfl, q⟩
theorem g_var21 {x0 x1 x2 x3 x4 x5 x6 x7 x8 x9 x10 x11 x12 x13 x14 x15 x16 x17 x18 x19 x20 : Option V} {r : L2.St} (q : Q v H) : tVar 21 (x0 :: x1 :: x2 :: x3 :: x4 :: x5 :: x6 :: x7 :: x8 :: x9 :: x10 :: x11 :: x12 :: x13 :: x14 :: x15 :: x16 :: x17 :: x18 :: x19 :: x20 :: some v :: r) H Q := ⟨v, rfl, q⟩
theorem g_var22 {x0 x1 x2 x3 x4 x5 x6 x7 x8 x9 x10 x11 x12 x13 x14 x15 x16 x17 x18 x19 x20 x21 : Option V} {r : L2.St} (q : Q v H) : tVar 22 (x0 :: x1 :: x2 :: x3 :: x4 :: x5 :: x6 :: x7 :: x8 :: x9 :: x10 :: x11 :: x12 :: x13 :: x14 :: x15 :: x16 :: x17 :: x18 :: x19 :: x20 :: x21 :: some v :: r) H Q := ⟨v, rfl, q⟩
theorem g_var23 {x0 x1 x2 x3 x4 x5 x6 x7 x8 x9 x10 x11 x12 x13 x14 x15 x16 x17 x18 x19 x20 x21 x22 : Option V} {r : L2.St} (q : Q v H) : tVar 23 (x0 :: x1 :: x2 :: x3 :: x4 :: x5 :: x6 :: x7 :: x8 :: x9 :: x10 :: x11 :: x12 :: x13 :: x14 :: x15 :: x16 :: x17 :: x18 :: x19 :: x20 :: x21 :: x22 :: some v :: r) H Q := ⟨v, rfl, q⟩
theorem g_var24 {x0 x1 x2 x3 x4 x5 x6 x7 x8 x9 x10 x11 x12 x13 x14 x15 x16 x17 x18 x19 x20 x21 x22 x23 : Option V} {r : L2.St} (q : Q v H) : tVar 24 (x0 :: x1 :: x2 :: x3 :: x4 :: x5 :: x6 :: x7 :: x8 :: x9 :: x10 :: x11 :: x12 :: x13 :: x14 :: x15 :: x16 :: x17 :: x18 :: x19 :: x20 :: x21 :: x22 :: x23 :: some v :: r) H Q := ⟨v, rfl, q⟩
theorem g_var25 {x0 x1 x2 x3 x4 x5 x6 x7 x8 x9 x10 x11 x12 x13 x14 x15 x16 x17 x18 x19 x20 x21 x22 x23 x24 : Option V} {r : L2.St} (q : Q v H) : tVar 25 (x0 :: x1 :: x2 :: x3 :: x4 :: x5 :: x6 :: x7 :: x8 :: x9 :: x10 :: x11 :: x12 :: x13 :: x14 :: x15 :: x16 :: x17 :: x18 :: x19 :: x20 :: x21 :: x22 :: x23 :: x24 :: some v :: r) H Q := ⟨v, rfl, q⟩
theorem g_c (q : Q v H) : tC v σ H Q := q
theorem g_op (q : ta σ H fun x H1 => tb σ H1 fun y H2 => r x y H2 Q) : tOp r ta tb σ H Q := q
theorem g_un {r1 : V → Hp → VK → Prop} (q : ta σ H fun x H1 => r1 x H1 Q) : tUn r1 ta σ H Q := q
theorem g_rI0 {k : Int → Int → V} (q : Q (k a b) H) : rI0 k (.int a) (.int b) H Q := ⟨a, b, rfl, rfl, q⟩
theorem g_rU {k : Int → V} (q : Q (k a) H) : rU k (.int a) H Q := ⟨a, rfl, q⟩
theorem g_rI {C : Int → Int → Prop} {k : Int → Int → V} (h : C a b) (q : Q (k a b) H) : rI C k (.int a) (.int b) H Q := ⟨a, b, rfl, rfl, h, q⟩
theorem g_eq {x y : V} (h : scal x y = true) (q : Q (.bl (decide (x = y))) H) : rEq x y H Q := ⟨h, q⟩
theorem g_ne {x y : V} (h : scal x y = true) (q : Q (.bl (!decide (x = y))) H) : rNe x y H Q := ⟨h, q⟩
theorem g_isN {x : V} (q : Q (.bl (decide (x = .non))) H) : rIsN x .non H Q := ⟨rfl, q⟩
theorem g_notN {x : V} (q : Q (.bl (!decide (x = .non))) H) : rNotN x .non H Q := ⟨rfl, q⟩
theorem g_test (q : ta σ H fun x H' => ∃ k, x = .bl k ∧ QB k H') : tTest ta σ H QB := q
theorem g_tB (q : ta σ H fun x H' => ∃ k, x = .bl k ∧ QB k H') : tB ta σ H QB := q
theorem g_bl {c : Bool} (q : QB c H) : ∃ k, V.bl c = .bl k ∧ QB k H := ⟨c, rfl, q⟩
theorem g_not (q : t σ H fun c H1 => QB (!c) H1) : tNot t σ H QB := q
theorem g_and (q : t σ H fun c H1 => if c = true then u σ H1 QB else QB false H1) : tAnd t u σ H QB := q
theorem g_or (q : t σ H fun c H1 => if c = true then QB true H1 else u σ H1 QB) : tOr t u σ H QB := q
theorem g_andV (q : ta σ H fun x H1 => ∃ c, x = .bl c ∧ if c = true then tb σ H1 Q else Q (.bl false) H1) : tAndV ta tb σ H Q := q
theorem g_orV (q : ta σ H fun x H1 => ∃ c, x = .bl c ∧ if c = true then Q (.bl true) H1 else tb σ H1 Q) : tOrV ta tb σ H Q := q
theorem g_notV (q : ta σ H fun x H1 => ∃ c, x = .bl c ∧ Q (.bl (!c)) H1) : tNotV ta σ H Q := q
theorem g_if (q : t σ H fun c H1 => if c = true then ta σ H1 Q else tb σ H1 Q) : tIf t ta tb σ H Q := q
theorem g_sub {to ti : TE} {st : TSet} {Qs : L2.St → Hp → Prop} (q : to σ H fun o H1 => ti σ H1 fun i H2 => st o i v H2 fun H3 => Qs σ H3) : gSub to ti st v σ H Qs := q
theorem g_sz {n : Nat} {B : Prop} (h : n ≤ 100000) (q : B) : n ≤ sizeLine ∧ B := ⟨Nat.le_trans h (by decide), q⟩
theorem g_lenL {K : PySem.W.Frag} {p : Addr} {xs : List V} (h : SqL K H p xs) (q : Q (.int (xs.length : Nat)) H) : rLenN K [V.ref p] H Q := ⟨_, _, rfl, Or.inl ⟨xs, h, rfl⟩, q⟩
theorem g_lenT {K : PySem.W.Frag} {p : Addr} {xs : List V} (h : SqT K H p xs) (q : Q (.int (xs.length : Nat)) H) : rLenN K [V.ref p] H Q := ⟨_, _, rfl, Or.inr ⟨xs, h, rfl⟩, q⟩
theorem g_min2 (q : Q (.int (if b < a then b else a)) H) : rMin2 [.int a, .int b] H Q := ⟨a, b, rfl, q⟩
theorem g_max2 (q : Q (.int (if b > a then b else a)) H) : rMax2 [.int a, .int b] H Q := ⟨a, b, rfl, q⟩
theorem g_abs (q : Q (.int (if a < 0 then -a else a)) H) : rAbs [.int a] H Q := ⟨a, rfl, q⟩
theorem g_intI (q : Q (.int a) H) : rInt1 [.int a] H Q := .inl ⟨a, rfl, q⟩
theorem g_intB {k : Bool} (q : Q (.int (if k then 1 else 0)) H) : rInt1 [.bl k] H Q := .inr ⟨k, rfl, q⟩
theorem g_listL {K : PySem.W.Frag} {p : Addr} {xs : List V} (h : SqL K H p xs) (q : ∀ l, H l = none → Q (.ref l) (upd H l (.lst xs))) : rListOf K [.ref p] H Q := ⟨p, xs, rfl, .inl h, q⟩
theorem g_set41 {p : Addr} {x0 x1 x2 x3 : V} {QS : Hp → Prop} (h : H p = some (.lst [x0, x1, x2, x3])) (q : QS (upd H p (.lst [x0, v, x2, x3]))) : rSetL (.ref p) (.int 1) v H QS := ⟨p, _, 1, 1, rfl, rfl, h, rfl, q⟩
theorem g_set42 {p : Addr} {x0 x1 x2 x3 : V} {QS : Hp → Prop} (h : H p = some (.lst [x0, x1, x2, x3])) (q : QS (upd H p (.lst [x0, x1, v, x3]))) : rSetL (.ref p) (.int 2) v H QS := ⟨p, _, 2, 2, rfl, rfl, h, rfl, q⟩
theorem g_set43 {p : Addr} {x0 x1 x2 x3 : V} {QS : Hp → Prop} (h : H p = some (.lst [x0, x1, x2, x3])) (q : QS (upd H p (.lst [x0, x1, x2, v]))) : rSetL (.ref p) (.int 3) v H QS := ⟨p, _, 3, 3, rfl, rfl, h, rfl, q⟩
theorem g_setL {p : Addr} {xs ys : List V} {j : Nat} {QS : Hp → Prop} (h : H p = some (.lst xs)) (h2 : ixN xs.length a = some j) (h3 : xs.set j v = ys) (q : QS (upd H p (.lst ys))) : rSetL (.ref p) (.int a) v H QS := ⟨p, xs, a, j, rfl, rfl, h, h2, h3 ▸ q⟩
theorem g_chain (q : ta σ H fun x H1 => tb σ H1 fun y H2 => r x y H2 fun z H3 => ∃ k, z = .bl k ∧ (if k = true then tc σ H3 fun w' H4 => r' y w' H4 Q else Q (.bl false) H3)) : tChain r r' ta tb tc σ H Q := q
theorem g_nil (q : QA [] H) : tNil σ H QA := q
theorem g_cons {tr : TA} (q : te σ H fun x H1 => tr σ H1 fun xs H2 => QA (x :: xs) H2) : tCons te tr σ H QA := q
theorem g_call {sp : Sp} {dvs : List V} {E : XK} (q : tl σ H fun vs H1 => sp (vs ++ dvs) H1 Q E) : tCall sp dvs E tl σ H Q := q
theorem g_callB {rc : List V → Hp → VK → Prop} (q : tl σ H fun vs H1 => rc vs H1 Q) : tCB rc tl σ H Q := q
theorem g_lst (q : tl σ H fun xs H1 => xs.length ≤ sizeLine ∧ ∀ p, H1 p = none → Q (.ref p) (upd H1 p (.lst xs))) : tLst tl σ H Q := q
theorem g_tup (q : tl σ H fun xs H1 => xs.length ≤ sizeLine ∧ ∀ p, H1 p = none → Q (.ref p) (upd H1 p (.tup xs))) : tTup tl σ H Q := q
theorem g_seq (q : s1 { D with nx := s2 D } σ H) : tSeq s1 s2 D σ H := q
theorem g_asg (q : te σ H fun x H1 => g x σ H1 D.nx) : tAsg te g D σ H := q
theorem g_name {Qs : L2.St → Hp → Prop} (q : Qs (σ.set i (some v)) H) : gName i v σ H Qs := q
theorem g_name0 {x0 : Option V} {r : L2.St} {Qs : L2.St → Hp → Prop} (q : Qs (some v :: r) H) : gName 0 v (x0 :: r) H Qs := q
theorem g_name1 {x0 x1 : Option V} {r : L2.St} {Qs : L2.St → Hp → Prop} (q : Qs (x0 :: some v :: r) H) : gName 1 v (x0 :: x1 :: r) H Qs := q
theorem g_name2 {x0 x1 x2 : Option V} {r : L2.St} {Qs : L2.St → Hp → Prop} (q : Qs (x0 :: x1 :: some v :: r) H) : gName 2 v (x0 :: x1 :: x2 :: r) H Qs := q
theorem g_name3 {x0 x1 x2 x3 : Option V} {r : L2.St} {Qs : L2.St → Hp → Prop} (q : Qs (x0 :: x1 :: x2 :: some v :: r) H) : gName 3 v (x0 :: x1 :: x2 :: x3 :: r) H Qs := q
theorem g_name4 {x0 x1 x2 x3 x4 : Option V} {r : L2.St} {Qs : L2.St → Hp → Prop} (q : Qs (x0 :: x1 :: x2 :: x3 :: some v :: r) H) : gName 4 v (x0 :: x1 :: x2 :: x3 :: x4 :: r) H Qs := q
theorem g_name5 {x0 x1 x2 x3 x4 x5 : Option V} {r : L2.St} {Qs : L2.St → Hp → Prop} (q : Qs (x0 :: x1 :: x2 :: x3 :: x4 :: some v :: r) H) : gName 5 v (x0 :: x1 :: x2 :: x3 :: x4 :: x5 :: r) H Qs := q
theorem g_name6 {x0 x1 x2 x3 x4 x5 x6 : Option V} {r : L2.St} {Qs : L2.St → Hp → Prop} (q : Qs (x0 :: x1 :: x2 :: x3 :: x4 :: x5 :: some v :: r) H) : gName 6 v (x0 :: x1 :: x2 :: x3 :: x4 :: x5 :: x6 :: r) H Qs := q
theorem g_name7 {x0 x1 x2 x3 x4 x5 x6 x7 : Option V} {r : L2.St} {Qs : L2.St → Hp → Prop} (q : Qs (x0 :: x1 :: x2 :: x3 :: x4 :: x5 :: x6 :: some v :: r) H) : gName 7 v (x0 :: x1 :: x2 :: x3 :: x4 :: x5 :: x6 :: x7 :: r) H Qs := q
theorem g_name8 {x0 x1 x2 x3 x4 x5 x6 x7 x8 : Option V} {r : L2.St} {Qs : L2.St → Hp → Prop} (q : Qs (x0 :: x1 :: x2 :: x3 :: x4 :: x5 :: x6 :: x7 :: some v :: r) H) : gName 8 v (x0 :: x1 :: x2 :: x3 :: x4 :: x5 :: x6 :: x7 :: x8 :: r) H Qs := q
theorem g_name9 {x0 x1 x2 x3 x4 x5 x6 x7 x8 x9 : Option V} {r : L2.St} {Qs : L2.St → Hp → Prop} (q : Qs (x0 :: x1 :: x2 :: x3 :: x4 :: x5 :: x6 :: x7 :: x8 :: some v :: r) H) : gName 9 v (x0 :: x1 :: x2 :: x3 :: x4 :: x5 :: x6 :: x7 :: x8 :: x9 :: r) H Qs := q
theorem g_name10 {x0 x1 x2 x3 x4 x5 x6 x7 x8 x9 x10 : Option V} {r : L2.St} {Qs : L2.St → Hp → Prop} (q : Qs (x0 :: x1 :: x2 :: x3 :: x4 :: x5 :: x6 :: x7 :: x8 :: x9 :: some v :: r) H) : gName 10 v (x0 :: x1 :: x2 :: x3 :: x4 :: x5 :: x6 :: x7 :: x8 :: x9 :: x10 :: r) H Qs := q
theorem g_name11 {x0 x1 x2 x3 x4 x5 x6 x7 x8 x9 x10 x11 : Option V} {r : L2.St} {Qs : L2.St → Hp → Prop} (q : Qs (x0 :: x1 :: x2 :: x3 :: x4 :: x5 :: x6 :: x7 :: x8 :: x9 :: x10 :: some v :: r) H) : gName 11 v (x0 :: x1 :: x2 :: x3 :: x4 :: x5 :: x6 :: x7 :: x8 :: x9 :: x10 :: x11 :: r) H Qs := q
theorem g_name12 {x0 x1 x2 x3 x4 x5 x6 x7 x8 x9 x10 x11 x12 : Option V} {r : L2.St} {Qs : L2.St → Hp → Prop} (q : Qs (x0 :: x1 :: x2 :: x3 :: x4 :: x5 :: x6 :: x7 :: x8 :: x9 :: x10 :: x11 :: some v :: r) H) : gName 12 v (x0 :: x1 :: x2 :: x3 :: x4 :: x5 :: x6 :: x7 :: x8 :: x9 :: x10 :: x11 :: x12 :: r) H Qs := q
theorem g_name13 {x0 x1 x2 x3 x4 x5 x6 x7 x8 x9 x10 x11 x12 x13 : Option V} {r : L2.St} {Qs : L2.St → Hp → Prop} (q : Qs (x0 :: x1 :: x2 :: x3 :: x4 :: x5 :: x6 :: x7 :: x8 :: x9 :: x10 :: x11 :: x12 :: some v :: r) H) : gName 13 v (x0 :: x1 :: x2 :: x3 :: x4 :: x5 :: x6 :: x7 :: x8 :: x9 :: x10 :: x11 :: x12 :: x13 :: r) H Qs := q
theorem g_name14 {x0 x1 x2 x3 x4 x5 x6 x7 x8 x9 x10 x11 x12 x13 x14 : Option V} {r : L2.St} {Qs : L2.St → Hp → Prop} (q : Qs (x0 :: x1 :: x2 :: x3 :: x4 :: x5 :: x6 :: x7 :: x8 :: x9 :: x10 :: x11 :: x12 :: x13 :: some v :: r) H) : gName 14 v (x0 :: x1 :: x2 :: x3 :: x4 :: x5 :: x6 :: x7 :: x8 :: x9 :: x10 :: x11 :: x12 :: x13 :: x14 :: r) H Qs := q
theorem g_name15 {x0 x1 x2 x3 x4 x5 x6 x7 x8 x9 x10 x11 x12 x13 x14 x15 : Option V} {r : L2.St} {Qs : L2.St → Hp → Prop} (q : Qs (x0 :: x1 :: x2 :: x3 :: x4 :: x5 :: x6 :: x7 :: x8 :: x9 :: x10 :: x11 :: x12 :: x13 :: x14 :: some v :: r) H) : gName 15 v (x0 :: x1 :: x2 :: x3 :: x4 :: x5 :: x6 :: x7 :: x8 :: x9 :: x10 :: x11 :: x12 :: x13 :: x14 :: x15 :: r) H Qs := q
theorem g_name16 {x0 x1 x2 x3 x4 x5 x6 x7 x8 x9 x10 x11 x12 x13 x14 x15 x16 : Option V} {r : L2.St} {Qs : L2.St → Hp → Prop} (q : Qs (x0 :: x1 :: x2 :: x3 :: x4 :: x5 :: x6 :: x7 :: x8 :: x9 :: x10 :: x11 :: x12 :: x13 :: x14 :: x15 :: some v :: r) H) : gName 16 v (x0 :: x1 :: x2 :: x3 :: x4 :: x5 :: x6 :: x7 :: x8 :: x9 :: x10 :: x11 :: x12 :: x13 :: x14 :: x15 :: x16 :: r) H Qs := q
theorem g_name17 {x0 x1 x2 x3 x4 x5 x6 x7 x8 x9 x10 x11 x12 x13 x14 x15 x16 x17 : Option V} {r : L2.St} {Qs : L2.St → Hp → Prop} (q : Qs (x0 :: x1 :: x2 :: x3 :: x4 :: x5 :: x6 :: x7 :: x8 :: x9 :: x10 :: x11 :: x12 :: x13 :: x14 :: x15 :: x16 :: some v :: r) H) : gName 17 v (x0 :: x1 :: x2 :: x3 :: x4 :: x5 :: x6 :: x7 :: x8 :: x9 :: x10 :: x11 :: x12 :: x13 :: x14 :: x15 :: x16 :: x17 :: r) H Qs := q
theorem g_name18 {x0 x1 x2 x3 x4 x5 x6 x7 x8 x9 x10 x11 x12 x13 x14 x15 x16 x17 x18 : Option V} {r : L2.St} {Qs : L2.St → Hp → Prop} (q : Qs (x0 :: x1 :: x2 :: x3 :: x4 :: x5 :: x6 :: x7 :: x8 :: x9 :: x10 :: x11 :: x12 :: x13 :: x14 :: x15 :: x16 :: x17 :: some v :: r) H) : gName 18 v (x0 :: x1 :: x2 :: x3 :: x4 :: x5 :: x6 :: x7 :: x8 :: x9 :: x10 :: x11 :: x12 :: x13 :: x14 :: x15 :: x16 :: x17 :: x18 :: r) H Qs := q
theorem g_name19 {x0 x1 x2 x3 x4 x5 x6 x7 x8 x9 x10 x11 x12 x13 x14 x15 x16 x17 x18 x19 : Option V} {r : L2.St} {Qs : L2.St → Hp → Prop} (q : Qs (x0 :: x1 :: x2 :: x3 :: x4 :: x5 :: x6 :: x7 :: x8 :: x9 :: x10 :: x11 :: x12 :: x13 :: x14 :: x15 :: x16 :: x17 :: x18 :: some v :: r) H) : gName 19 v (x0 :: x1 :: x2 :: x3 :: x4 :: x5 :: x6 :: x7 :: x8 :: x9 :: x10 :: x11 :: x12 :: x13 :: x14 :: x15 :: x16 :: x17 :: x18 :: x19 :: r) H Qs := q
theorem g_name20 {x0 x1 x2 x3 x4 x5 x6 x7 x8 x9 x10 x11 x12 x13 x14 x15 x16 x17 x18 x19 x20 : Option V} {r : L2.St} {Qs : L2.St → Hp → Prop} (q : Qs (x0 :: x1 :: x2 :: x3 :: x4 :: x5 :: x6 :: x7 :: x8 :: x9 :: x10 :: x11 :: x12 :: x13 :: x14 :: x15 :: x16 :: x17 :: x18 :: x19 :: some v :: r) H) : gName 20 v (x0 :: x1 :: x2 :: x3 :: x4 :: x5 :: x6 :: x7 :: x8 :: x9 :: x10 :: x11 :: x12 :: x13 :: x14 :: x15 :: x16 :: x17 :: x18 :: x19 :: x20 :: r) H Qs := q
theorem g_name21 {x0 x1 x2 x3 x4 x5 x6 x7 x8 x9 x10 x11 x12 x13 x14 x15 x16 x17 x18 x19 x20 x21 : Option V} {r : L2.St} {Qs : L2.St → Hp → Prop} (q : Qs (x0 :: x1 :: x2 :: x3 :: x4 :: x5 :: x6 :: x7 :: x8 :: x9 :: x10 :: x11 :: x12 :: x13 :: x14 :: x15 :: x16 :: x17 :: x18 :: x19 :: x20 :: some v :: r) H) : gName 21 v (x0 :: x1 :: x2 :: x3 :: x4 :: x5 :: x6 :: x7 :: x8 :: x9 :: x10 :: x11 :: x12 :: x13 :: x14 :: x15 :: x16 :: x17 :: x18 :: x19 :: x20 :: x21 :: r) H Qs := q
theorem g_name22 {x0 x1 x2 x3 x4 x5 x6 x7 x8 x9 x10 x11 x12 x13 x14 x15 x16 x17 x18 x19 x20 x21 x22 : Option V} {r : L2.St} {Qs : L2.St → Hp → Prop} (q : Qs (x0 :: x1 :: x2 :: x3 :: x4 :: x5 :: x6 :: x7 :: x8 :: x9 :: x10 :: x11 :: x12 :: x13 :: x14 :: x15 :: x16 :: x17 :: x18 :: x19 :: x20 :: x21 :: some v :: r) H) : gName 22 v (x0 :: x1 :: x2 :: x3 :: x4 :: x5 :: x6 :: x7 :: x8 :: x9 :: x10 :: x11 :: x12 :: x13 :: x14 :: x15 :: x16 :: x17 :: x18 :: x19 :: x20 :: x21 :: x22 :: r) H Qs := q
theorem g_name23 {x0 x1 x2 x3 x4 x5 x6 x7 x8 x9 x10 x11 x12 x13 x14 x15 x16 x17 x18 x19 x20 x21 x22 x23 : Option V} {r : L2.St} {Qs : L2.St → Hp → Prop} (q : Qs (x0 :: x1 :: x2 :: x3 :: x4 :: x5 :: x6 :: x7 :: x8 :: x9 :: x10 :: x11 :: x12 :: x13 :: x14 :: x15 :: x16 :: x17 :: x18 :: x19 :: x20 :: x21 :: x22 :: some v :: r) H) : gName 23 v (x0 :: x1 :: x2 :: x3 :: x4 :: x5 :: x6 :: x7 :: x8 :: x9 :: x10 :: x11 :: x12 :: x13 :: x14 :: x15 :: x16 :: x17 :: x18 :: x19 :: x20 :: x21 :: x22 :: x23 :: r) H Qs := q
theorem g_name24 {x0 x1 x2 x3 x4 x5 x6 x7 x8 x9 x10 x11 x12 x13 x14 x15 x16 x17 x18 x19 x20 x21 x22 x23 x24 : Option V} {r : L2.St} {Qs : L2.St → Hp → Prop} (q : Qs (x0 :: x1 :: x2 :: x3 :: x4 :: x5 :: x6 :: x7 :: x8 :: x9 :: x10 :: x11 :: x12 :: x13 :: x14 :: x15 :: x16 :: x17 :: x18 :: x19 :: x20 :: x21 :: x22 :: x23 :: some v :: r) H) : gName 24 v (x0 :: x1 :: x2 :: x3 :: x4 :: x5 :: x6 :: x7 :: x8 :: x9 :: x10 :: x11 :: x12 :: x13 :: x14 :: x15 :: x16 :: x17 :: x18 :: x19 :: x20 :: x21 :: x22 :: x23 :: x24 :: r) H Qs := q
theorem g_name25 {x0 x1 x2 x3 x4 x5 x6 x7 x8 x9 x10 x11 x12 x13 x14 x15 x16 x17 x18 x19 x20 x21 x22 x23 x24 x25 : Option V} {r : L2.St} {Qs : L2.St → Hp → Prop} (q : Qs (x0 :: x1 :: x2 :: x3 :: x4 :: x5 :: x6 :: x7 :: x8 :: x9 :: x10 :: x11 :: x12 :: x13 :: x14 :: x15 :: x16 :: x17 :: x18 :: x19 :: x20 :: x21 :: x22 :: x23 :: x24 :: some v :: r) H) : gName 25 v (x0 :: x1 :: x2 :: x3 :: x4 :: x5 :: x6 :: x7 :: x8 :: x9 :: x10 :: x11 :: x12 :: x13 :: x14 :: x15 :: x16 :: x17 :: x18 :: x19 :: x20 :: x21 :: x22 :: x23 :: x24 :: x25 :: r) H Qs := q
theorem g_start {t : TS} {σ' : L2.St} (h : σ' = σ) (q : t D σ H) : t D σ' H := h ▸ q
theorem g_ifS (q : t σ H fun b H1 => if b = true then s1 D σ H1 else s2 D σ H1) : tIfS t s1 s2 D σ H := q
theorem g_ret (q : te σ H D.rt) : tRet te D σ H := q
theorem g_retN (q : D.rt .non H) : tRetN D σ H := q
theorem g_drop (q : te σ H fun _ H1 => D.nx σ H1) : tDrop te D σ H := q
theorem g_next (q : D.nx σ H) : tNext D σ H := q
theorem g_ixL {K : PySem.W.Frag} {p : Addr} {xs : List V} (h : SqL K H p xs) (h2 : atI xs a = some v) (q : Q v H) : rIxL K (.ref p) (.int a) H Q := ⟨p, xs, a, v, rfl, rfl, h, h2, q⟩
theorem g_ixAny {K : PySem.W.Frag} {p : Addr} {xs : List V} (h : SqL K H p xs) (h0 : 0 ≤ a) (h1 : a < (xs.length : Int)) (q : ∀ v, v ∈ xs → Q v H) : rIxL K (.ref p) (.int a) H Q := by
  obtain ⟨j, rfl⟩ : ∃ j : Nat, a = (j : Int) := ⟨a.toNat, by omega⟩
  have hl : j < xs.length := by omega
  exact ⟨p, xs, _, xs[j], rfl, rfl, h, atI_nat (by simp [hl]), q _ (List.getElem_mem hl)⟩
theorem g_ixT {K : PySem.W.Frag} {p : Addr} {xs : List V} (h : SqT K H p xs) (h2 : atI xs a = some v) (q : Q v H) : rIxT K (.ref p) (.int a) H Q := ⟨p, xs, a, v, rfl, rfl, h, h2, q⟩
theorem ite_nT {A B : Prop} (h : B) : if (!true) = true then A else B := h
theorem ite_nF {A B : Prop} (h : A) : if (!false) = true then A else B := h
theorem ite_dec {c : Prop} [Decidable c] {A B : Prop} (h1 : c → A) (h2 : ¬ c → B) : if decide c = true then A else B := by
  by_cases h : c
  · rw [if_pos (decide_eq_true h)]
    exact h1 h
  · rw [if_neg (by rw [decide_eq_false h]; decide)]
    exact h2 h
theorem ite_ndec {c : Prop} [Decidable c] {A B : Prop} (h1 : ¬ c → A) (h2 : c → B) : if (!decide c) = true then A else B := by
  by_cases h : c
  · rw [if_neg (by rw [decide_eq_true h]; decide)]
    exact h2 h
  · rw [if_pos (by rw [decide_eq_false h]; decide)]
    exact h1 h
theorem ite_eqT {x : V} {A B : Prop} (h : A) : if decide (x = x) = true then A else B := by
  rw [if_pos (decide_eq_true rfl)]
  exact h
theorem ite_neF {x : V} {A B : Prop} (h : B) : if (!decide (x = x)) = true then A else B := by
  rw [if_neg (by rw [decide_eq_true rfl]; decide)]
  exact h
theorem ite_strF {s t : Str} {A B : Prop} (hs : s ≠ t) (h : B) : if decide (V.str s = V.str t) = true then A else B := by
  rw [if_neg (by rw [decide_eq_false (fun z => hs (V.str.inj z))]; decide)]
  exact h
theorem ite_strT {s t : Str} {A B : Prop} (hs : s ≠ t) (h : A) : if (!decide (V.str s = V.str t)) = true then A else B := by
  rw [if_pos (by rw [decide_eq_false (fun z => hs (V.str.inj z))]; decide)]
  exact h
theorem ite_bool {c : Bool} {A B : Prop} (h1 : c = true → A) (h2 : c = false → B) : if c = true then A else B := by
  cases c with
  | true => exact iteT (h1 rfl)
  | false => exact iteF (h2 rfl)
end
/-! ### heaps -/
theorem Same.at {H H' : Hp} (e : Same H H') {b : Addr} {o : HO} (h : H b = some o) : H' b = some o := e b o h
theorem Same.new {H : Hp} {p : Addr} {o : HO} (h : H p = none) : Same H (upd H p o) := fun a u e => by
  rw [upd_ne (ne_of_none e h)]
  exact e
theorem Same.seqT {K : PySem.W.Frag} {H H' : Hp} {a : Addr} {xs : List V} (e : Same H H') (h : SqT K H a xs) : SqT K H' a xs := by
  rcases h with (h | ⟨o, h⟩) | h
  · exact .inl (.inl (e _ _ h))
  · exact .inl (.inr ⟨o, e _ _ h⟩)
  · exact .inr h
theorem upd_old {H : Hp} {a p : Addr} {o u : HO} (h : H a = some o) (hp : H p = none) : upd H p u a = some o := by
  rw [upd_ne (ne_of_none h hp)]
  exact h
theorem sz {n : Nat} (h : n ≤ 100000) : n ≤ sizeLine := Nat.le_trans h (by decide)
theorem szl {n : Nat} (h : n < 100000) : n < sizeLine := Nat.lt_of_lt_of_le h (by decide)
theorem int_at {ns : List Int} {i : Nat} {y : V} (h : (ns.map V.int)[i]? = some y) : ∃ z, y = V.int z ∧ ns[i]? = some z := by
  rw [List.getElem?_map] at h
  cases e : ns[i]? with
  | none => rw [e] at h; cases h
  | some z => rw [e] at h; exact ⟨z, (Option.some.inj h).symm, rfl⟩
/-- all that is tracked stays, but what stands at a -/
def Kp (a : Addr) (H H' : Hp) : Prop := ∀ b o, H b = some o → b ≠ a → H' b = some o
theorem Kp.refl {a : Addr} {H : Hp} : Kp a H H := fun _ _ h _ => h
theorem Kp.trans {a : Addr} {H H1 H2 : Hp} (x : Kp a H H1) (y : Kp a H1 H2) : Kp a H H2 := fun b o h n => y b o (x b o h n) n
theorem Kp.same {a : Addr} {H H' : Hp} (e : Same H H') : Kp a H H' := fun b o h _ => e b o h
theorem Kp.upd {a : Addr} {H : Hp} {o : HO} : Kp a H (upd H a o) := fun b u h n => by
  rw [upd_ne n]
  exact h
/-- the drawing state at a: the script at s, how many cells are begun, two numbers more -/
structure Dr (K : PySem.W.Frag) (a s : Addr) (H : Hp) : Prop where
  ex : ∃ (ns : List Int) (i m l : Int), H a = some (.lst [.ref s, .int i, .int m, .int l]) ∧ (∀ o, SqL K (upd H a o) s (ns.map V.int)) ∧ ns.length ≤ 63 ∧ 0 ≤ i
theorem Same.upd {H H' : Hp} (e : Same H H') (a : Addr) (o : HO) : Same (upd H a o) (upd H' a o) := fun b u h => by
  by_cases hb : b = a
  · subst hb
    rw [upd_same] at h ⊢
    exact h
  · rw [upd_ne hb] at h ⊢
    exact e b u h
theorem Dr.same {K : PySem.W.Frag} {a s : Addr} {H H' : Hp} (d : Dr K a s H) (e : Same H H') : Dr K a s H' := by
  obtain ⟨ns, i, m, l, h1, h2, h3, h4⟩ := d.ex
  exact ⟨ns, i, m, l, e _ _ h1, fun o => (Same.upd e a o).seq (h2 o), h3, h4⟩
theorem Dr.ne {K : PySem.W.Frag} {a s p : Addr} {H : Hp} (d : Dr K a s H) (h : H p = none) : p ≠ a := by
  obtain ⟨ns, i, m, l, h1, _⟩ := d.ex
  exact (ne_of_none h1 h).symm
theorem Dr.ne2 {K : PySem.W.Frag} {a s p : Addr} {H : Hp} (h : H p = none) (d : Dr K a s H) : p ≠ a := d.ne h
theorem upd_self {H : Hp} {a : Addr} {o : HO} (h : H a = some o) : L2.upd H a o = H := by
  funext b
  by_cases hb : b = a
  · subst hb
    rw [upd_same, h]
  · rw [upd_ne hb]
/-- a new thing, not known to H, is changed: the state stays one -/
theorem Dr.mut {K : PySem.W.Frag} {a s D : Addr} {H H' : Hp} {o : HO} (d : Dr K a s H) (d' : Dr K a s H') (h : H D = none) : Dr K a s (L2.upd H' D o) := by
  obtain ⟨ns, i, m, l, h1, h2, h3, h4⟩ := d.ex
  obtain ⟨ns', i', m', l', g1, g2, g3, g4⟩ := d'.ex
  have nDa : a ≠ D := ne_of_none h1 h
  rcases h2 (.tbl #[]) with hr | hk
  · have nDs : s ≠ D := fun e => by
      subst e
      have z : L2.upd H a (.tbl #[]) s = none := by rw [upd_ne nDa.symm]; exact h
      rcases hr with hr | ⟨_, hr⟩ <;> rw [z] at hr <;> cases hr
    refine ⟨ns', i', m', l', by rw [upd_ne nDa]; exact g1, fun o' => ?_, g3, g4⟩
    have e : L2.upd (L2.upd H' D o) a o' s = L2.upd H' a o' s := by
      by_cases z : s = a
      · subst z; rw [upd_same, upd_same]
      · rw [upd_ne z, upd_ne z, upd_ne nDs]
    rcases g2 o' with q | q
    · refine .inl ?_
      rcases q with q | ⟨u, q⟩
      · exact .inl (e.trans q)
      · exact .inr ⟨u, e.trans q⟩
    · exact .inr q
  · exact ⟨ns, i', m', l', by rw [upd_ne nDa]; exact g1, fun o' => .inr hk, h3, g4⟩
/-- a def that only draws: the state stays a state, all else stays -/
structure Go (K : PySem.W.Frag) (a s : Addr) (H H' : Hp) : Prop where
  dr : Dr K a s H'
  kp : Kp a H H'
section
variable {K : PySem.W.Frag} {a s b D : Addr} {H H1 H2 H' : Hp} {o : HO}
theorem Go.trans (x : Go K a s H H1) (y : Go K a s H1 H2) : Go K a s H H2 := ⟨y.dr, x.kp.trans y.kp⟩
theorem Go.same (d : Dr K a s H) (e : Same H H') : Go K a s H H' := ⟨d.same e, Kp.same e⟩
theorem Go.refl (d : Dr K a s H) : Go K a s H H := ⟨d, Kp.refl⟩
theorem Go.at (x : Go K a s H H') (h : H b = some o) (n : b ≠ a) : H' b = some o := x.kp b o h n
theorem Go.then (x : Go K a s H H1) (e : Same H1 H2) : Go K a s H H2 := ⟨x.dr.same e, x.kp.trans (Kp.same e)⟩
/-- behind a new thing -/
theorem Go.pre (x : Go K a s H1 H2) (e : Same H H1) : Go K a s H H2 := ⟨x.dr, (Kp.same e).trans x.kp⟩
theorem Go.new (x : Go K a s (upd H D o) H2) (h : H D = none) : Go K a s H H2 := x.pre (Same.new h)
theorem Go.mut (g : Go K a s H H') (d : Dr K a s H) (h : H D = none) : Go K a s H (L2.upd H' D o) := ⟨d.mut g.dr h, fun b u hb hn => by
  rw [upd_ne (ne_of_none hb h)]
  exact g.kp b u hb hn⟩
theorem Go.seq {xs : List V} {p : Addr} (g : Go K a s H H') (h : SqL K H p xs) (n : p ≠ a) : SqL K H' p xs := by
  rcases h with (h | ⟨o, h⟩) | h
  · exact .inl (.inl (g.kp _ _ h n))
  · exact .inl (.inr ⟨o, g.kp _ _ h n⟩)
  · exact .inr h
end
theorem Same.mut {H H' : Hp} {D : Addr} {o : HO} (e : Same H H') (h : H D = none) : Same H (L2.upd H' D o) := fun b u hb => by
  rw [upd_ne (ne_of_none hb h)]
  exact e b u hb
/-! ### comprehensions: J tells of the turn, of what is made so far, of the heap; it does not look at the new list D -/
def LcP (J : Nat → List V → Hp → Prop) (D : Addr) (i : Nat) (H : Hp) : Prop := ∃ acc, J i acc H ∧ H D = some (.lst acc) ∧ acc.length ≤ i
section
variable {K : PySem.W.Frag} {a : Addr} {xs : List V} {g : TG} {tt : TT} {te : TE} {vs : List Nat} {σ : L2.St} {H1 : Hp} {D : Addr} {Qd : Hp → Prop}
theorem lc_leaf {J : Nat → List V → Hp → Prop} {i : Nat} {acc : List V} {H : Hp} {y : V} (hI : ∀ i acc H o, J i acc H → J i acc (upd H D o)) (hD : H D = some (.lst acc)) (hl : acc.length ≤ i) (hi : i < 100000) (hJ : J (i + 1) (acc ++ [y]) H) :
    ∃ acc, H D = some (.lst acc) ∧ acc.length < sizeLine ∧ LcP J D (i + 1) (upd H D (.lst (acc ++ [y]))) :=
  ⟨acc, hD, szl (by omega), acc ++ [y], hI _ _ _ _ hJ, upd_same, by rw [List.length_append, List.length_singleton]; omega⟩
theorem lc_skip {J : Nat → List V → Hp → Prop} {i : Nat} {acc : List V} {H : Hp} (hD : H D = some (.lst acc)) (hl : acc.length ≤ i) (hJ : J (i + 1) acc H) : LcP J D (i + 1) H := ⟨acc, hJ, hD, by omega⟩
theorem lc_L (J : Nat → List V → Hp → Prop) (hI : ∀ i acc H o, J i acc H → J i acc (upd H D o)) (h0 : J 0 [] H1) (hl : ∀ i acc H, J i acc H → SqL K H a xs)
    (hs : ∀ i x acc H, xs[i]? = some x → J i acc H → H D = some (.lst acc) → acc.length ≤ i → g x (wipe σ vs) H fun σ2 H2 => wipe σ2 vs = wipe σ vs ∧ tt σ2 H2 fun b H3 =>
      if b = true then te σ2 H3 fun y H4 => ∃ acc, H4 D = some (.lst acc) ∧ acc.length < sizeLine ∧ LcP J D (i + 1) (upd H4 D (.lst (acc ++ [y]))) else LcP J D (i + 1) H3)
    (hd : ∀ acc H, J xs.length acc H → H D = some (.lst acc) → Qd H) :
    ∃ W : Nat → Nat → Hp → Prop, (∃ m, W 0 m (upd H1 D (.lst []))) ∧ ∀ i m H, W i m H →
      ((Itl K a).stop i H ∧ Qd H) ∨ ((Itl K a).go i H ∧ ∃ Nx : Hp → Prop, (∀ H', Nx H' → ∃ m', m' < m ∧ W (i + 1) m' H') ∧ ∀ x H', (Itl K a).yld i H x H' → g x (wipe σ vs) H' fun σ2 H2 => wipe σ2 vs = wipe σ vs ∧ tt σ2 H2 fun b H3 =>
        if b = true then te σ2 H3 fun y H4 => ∃ acc, H4 D = some (.lst acc) ∧ acc.length < sizeLine ∧ Nx (upd H4 D (.lst (acc ++ [y]))) else Nx H3) :=
  lc_list (K := K) (a := a) (xs := xs) (LcP J D) ⟨[], hI _ _ _ _ h0, upd_same, Nat.le_refl _⟩ (fun i H _ ⟨acc, h, _⟩ => hl i acc H h) (fun i x H hi ⟨acc, hJ, hD, hlen⟩ => hs i x acc H hi hJ hD hlen) (fun H ⟨acc, h1, h2, _⟩ => hd acc H h1 h2)
theorem lc_R (lo : Int) (n : Nat) (J : Nat → List V → Hp → Prop) (hI : ∀ i acc H o, J i acc H → J i acc (upd H D o)) (h0 : J 0 [] H1)
    (hs : ∀ i acc H, i < n → J i acc H → H D = some (.lst acc) → acc.length ≤ i → g (.int (lo + i)) (wipe σ vs) H fun σ2 H2 => wipe σ2 vs = wipe σ vs ∧ tt σ2 H2 fun b H3 =>
      if b = true then te σ2 H3 fun y H4 => ∃ acc, H4 D = some (.lst acc) ∧ acc.length < sizeLine ∧ LcP J D (i + 1) (upd H4 D (.lst (acc ++ [y]))) else LcP J D (i + 1) H3)
    (hd : ∀ acc H, J n acc H → H D = some (.lst acc) → Qd H) :
    ∃ W : Nat → Nat → Hp → Prop, (∃ m, W 0 m (upd H1 D (.lst []))) ∧ ∀ i m H, W i m H →
      ((Itr lo n).stop i H ∧ Qd H) ∨ ((Itr lo n).go i H ∧ ∃ Nx : Hp → Prop, (∀ H', Nx H' → ∃ m', m' < m ∧ W (i + 1) m' H') ∧ ∀ x H', (Itr lo n).yld i H x H' → g x (wipe σ vs) H' fun σ2 H2 => wipe σ2 vs = wipe σ vs ∧ tt σ2 H2 fun b H3 =>
        if b = true then te σ2 H3 fun y H4 => ∃ acc, H4 D = some (.lst acc) ∧ acc.length < sizeLine ∧ Nx (upd H4 D (.lst (acc ++ [y]))) else Nx H3) :=
  lc_range (lo := lo) (n := n) (LcP J D) ⟨[], hI _ _ _ _ h0, upd_same, Nat.le_refl _⟩ (fun i H hi ⟨acc, hJ, hD, hlen⟩ => hs i acc H hi hJ hD hlen) (fun H ⟨acc, h1, h2, _⟩ => hd acc H h1 h2)
theorem g_for {wi : TI} {tb : TS} {D : Ends} {H : Hp} (q : wi σ H fun J H1 => ∃ W : Nat → Nat → L2.St → Hp → Prop, (∃ m, W 0 m σ H1) ∧ ∀ i m σ H, W i m σ H →
  (J.stop i H ∧ D.nx σ H) ∨ (J.go i H ∧ ∃ N : L2.St → Hp → Prop, (∀ σ' H', N σ' H' → ∃ m', m' < m ∧ W (i + 1) m' σ' H') ∧ ∀ x H', J.yld i H x H' → g x σ H' fun σ2 H2 => tb { D with nx := N, ct := N, bk := D.nx } σ2 H2)) : tFor wi g tb D σ H := q
theorem g_lc {wi : TI} {H : Hp} {Q : VK} (q : wi σ H fun J H1 => ∀ D, H1 D = none → ∃ W : Nat → Nat → Hp → Prop, (∃ m, W 0 m (upd H1 D (.lst []))) ∧ ∀ i m H, W i m H →
  (J.stop i H ∧ Q (.ref D) H) ∨ (J.go i H ∧ ∃ Nx : Hp → Prop, (∀ H', Nx H' → ∃ m', m' < m ∧ W (i + 1) m' H') ∧ ∀ x H', J.yld i H x H' → g x (wipe σ vs) H' fun σ2 H2 => wipe σ2 vs = wipe σ vs ∧ tt σ2 H2 fun b H3 =>
    if b = true then te σ2 H3 fun y H4 => ∃ acc, H4 D = some (.lst acc) ∧ acc.length < sizeLine ∧ Nx (upd H4 D (.lst (acc ++ [y]))) else Nx H3)) : tLc wi g tt te vs σ H Q := q
theorem g_iL {tl : TE} {H : Hp} {R : It → Hp → Prop} (q : tl σ H fun x H1 => ∃ a, x = .ref a ∧ (∃ xs, SqL K H1 a xs) ∧ R (Itl K a) H1) : iList K tl σ H R := q
theorem g_iT {tl : TE} {H : Hp} {R : It → Hp → Prop} (q : tl σ H fun x H1 => ∃ a, x = .ref a ∧ (∃ xs, SqT K H1 a xs) ∧ R (Itt K a) H1) : iTup K tl σ H R := q
theorem g_iR1 {ta : TA} {H : Hp} {R : It → Hp → Prop} (q : ta σ H fun vs H1 => ∃ j : Int, vs = [.int j] ∧ -(2 ^ 62) ≤ j ∧ j < 2 ^ 62 ∧ R (Itr 0 j.toNat) H1) : iRng1 ta σ H R := q
theorem g_iR2 {ta : TA} {H : Hp} {R : It → Hp → Prop} (q : ta σ H fun vs H1 => ∃ i j : Int, vs = [.int i, .int j] ∧ (-(2 ^ 62) ≤ i ∧ i < 2 ^ 62 ∧ -(2 ^ 62) ≤ j ∧ j < 2 ^ 62) ∧ R (Itr i (j - i).toNat) H1) : iRng2 ta σ H R := q
theorem g_iE {ta : TA} {H : Hp} {R : It → Hp → Prop} (q : ta σ H fun vs H1 => ∃ a xs, vs = [.ref a] ∧ SqL K H1 a xs ∧ R (Ite K a) H1) : iEnum K ta σ H R := q
theorem g_bm {T : String} {r : V → List V → Hp → VK → Prop} {to : TE} {t : TA} {H : Hp} {Q : VK} (q : to σ H fun x H1 => tyV K T x H1 ∧ t σ H1 fun xs H2 => r x xs H2 Q) : tBM K T r to t σ H Q := q
theorem g_app {p : Addr} {xs : List V} {y : V} {H : Hp} {Q : VK} (h : H p = some (.lst xs)) (hl : xs.length < 100000) (q : Q .non (upd H p (.lst (xs ++ [y])))) : rAppend (.ref p) [y] H Q := ⟨p, xs, y, rfl, rfl, h, szl hl, q⟩
theorem g_tyL {p : Addr} {xs : List V} {H : Hp} {B : Prop} (h : SqL K H p xs) (q : B) : tyV K "list" (.ref p) H ∧ B := ⟨Or.inl ⟨rfl, xs, h⟩, q⟩
theorem g_cat {p r : Addr} {xs ys : List V} {H : Hp} {Q : VK} (h : H p = some (.lst xs)) (h2 : H r = some (.lst ys)) (hl : xs.length + ys.length ≤ 100000) (q : ∀ l, H l = none → Q (.ref l) (upd H l (.lst (xs ++ ys)))) : rCat (.ref p) (.ref r) H Q := ⟨p, r, xs, ys, rfl, rfl, h, h2, sz hl, q⟩
/-- what follows a test is shown once, from M -/
theorem g_cut {t : TT} {H : Hp} {QB : Bool → Hp → Prop} (M : Bool → Hp → Prop) (h : ∀ QB' : Bool → Hp → Prop, (∀ b H', M b H' → QB' b H') → t σ H QB') (q : ∀ b H', M b H' → QB b H') : t σ H QB := h QB q
/-- .. an expression -/
theorem g_cutE {t : TE} {H : Hp} {Q : VK} (M : V → Hp → Prop) (h : ∀ Q' : VK, (∀ v H', M v H' → Q' v H') → t σ H Q') (q : ∀ v H', M v H' → Q v H') : t σ H Q := h Q q
/-- .. a statement -/
theorem g_cutS {t : TS} {D : Ends} {H : Hp} (M : L2.St → Hp → Prop) (h : ∀ N : L2.St → Hp → Prop, (∀ σ' H', M σ' H' → N σ' H') → t { D with nx := N } σ H) (q : ∀ σ' H', M σ' H' → D.nx σ' H') : t D σ H := h D.nx q
theorem g_yes {QB : Bool → Hp → Prop} {H : Hp} (q : QB true H) : tYes σ H QB := q
theorem g_tup2 {g1 g2 : TG} {x y : V} {p : Addr} {H : Hp} {Qs : L2.St → Hp → Prop} (h : SqT K H p [x, y]) (q : g1 x σ H fun σ1 H2 => g2 y σ1 H2 Qs) : gTup K 2 (gCons g1 (gCons g2 gNil)) (.ref p) σ H Qs := by
  refine ⟨p, _, rfl, h, rfl, x, _, rfl, ?_⟩
  revert q
  intro q
  exact (show (g1 x σ H fun σ1 H2 => ∃ v r, [y] = v :: r ∧ g2 v σ1 H2 fun σ' H' => r = [] ∧ Qs σ' H') from by
    have e : (fun (σ1 : L2.St) (H2 : Hp) => ∃ (v : V) (r : List V), [y] = v :: r ∧ g2 v σ1 H2 fun σ' H' => r = [] ∧ Qs σ' H') = fun σ1 H2 => g2 y σ1 H2 Qs := by
      funext σ1 H2
      refine propext ⟨?_, ?_⟩
      · rintro ⟨v, r, e, h⟩
        cases e
        have e2 : (fun (σ' : L2.St) (H' : Hp) => ([] : List V) = [] ∧ Qs σ' H') = Qs := by
          funext σ' H'
          exact propext ⟨fun h => h.2, fun h => ⟨rfl, h⟩⟩
        rw [e2] at h
        exact h
      · intro h
        refine ⟨y, [], rfl, ?_⟩
        have e2 : (fun (σ' : L2.St) (H' : Hp) => ([] : List V) = [] ∧ Qs σ' H') = Qs := by
          funext σ' H'
          exact propext ⟨fun h => h.2, fun h => ⟨rfl, h⟩⟩
        rw [e2]
        exact h
    rw [e]
    exact q)
/-- loops, what follows and the body any way -/
theorem for_E {H : Hp} {B : (L2.St → Hp → Prop) → L2.St → Hp → Prop} {nx : L2.St → Hp → Prop} (Pv : Nat → L2.St → Hp → Prop) (h0 : Pv 0 σ H) (hl : ∀ i σ H, i ≤ xs.length → Pv i σ H → SqL K H a xs)
    (hs : ∀ i x σ H T, xs[i]? = some x → Pv i σ H → H T = none → g (.ref T) σ (upd H T (.tup [.int (i : Nat), x])) fun σ2 H2 => B (Pv (i + 1)) σ2 H2) (hd : ∀ σ H, Pv xs.length σ H → nx σ H) :
    ∃ W : Nat → Nat → L2.St → Hp → Prop, (∃ m, W 0 m σ H) ∧ ∀ i m σ H, W i m σ H →
      ((Ite K a).stop i H ∧ nx σ H) ∨ ((Ite K a).go i H ∧ ∃ N : L2.St → Hp → Prop, (∀ σ' H', N σ' H' → ∃ m', m' < m ∧ W (i + 1) m' σ' H') ∧ ∀ x H', (Ite K a).yld i H x H' → g x σ H' fun σ2 H2 => B N σ2 H2) := by
  refine ⟨fun i m σ H => m = xs.length - i ∧ i ≤ xs.length ∧ Pv i σ H, ⟨xs.length, by simp, Nat.zero_le _, h0⟩, ?_⟩
  rintro i m σ H ⟨rfl, hi, p⟩
  have q := hl i σ H hi p
  by_cases hlt : i < xs.length
  · refine .inr ⟨⟨xs, xs[i], q, by simp [hlt]⟩, Pv (i + 1), fun σ' H' p' => ⟨xs.length - (i + 1), by omega, rfl, hlt, p'⟩, fun x H' y => ?_⟩
    obtain ⟨T, z, e1, e2, e3, e4⟩ := y
    subst e1 e3
    exact hs i z σ H T (e4 xs q) p e2
  · have e : i = xs.length := by omega
    subst e
    exact .inl ⟨⟨xs, q, Nat.le_refl _⟩, hd σ H p⟩
theorem for_L {H : Hp} {B : (L2.St → Hp → Prop) → L2.St → Hp → Prop} {nx : L2.St → Hp → Prop} (Pv : Nat → L2.St → Hp → Prop) (h0 : Pv 0 σ H) (hl : ∀ i σ H, i ≤ xs.length → Pv i σ H → SqL K H a xs)
    (hs : ∀ i x σ H, xs[i]? = some x → Pv i σ H → g x σ H fun σ2 H2 => B (Pv (i + 1)) σ2 H2) (hd : ∀ σ H, Pv xs.length σ H → nx σ H) :
    ∃ W : Nat → Nat → L2.St → Hp → Prop, (∃ m, W 0 m σ H) ∧ ∀ i m σ H, W i m σ H →
      ((Itl K a).stop i H ∧ nx σ H) ∨ ((Itl K a).go i H ∧ ∃ N : L2.St → Hp → Prop, (∀ σ' H', N σ' H' → ∃ m', m' < m ∧ W (i + 1) m' σ' H') ∧ ∀ x H', (Itl K a).yld i H x H' → g x σ H' fun σ2 H2 => B N σ2 H2) := by
  refine ⟨fun i m σ H => m = xs.length - i ∧ i ≤ xs.length ∧ Pv i σ H, ⟨xs.length, by simp, Nat.zero_le _, h0⟩, ?_⟩
  rintro i m σ H ⟨rfl, hi, p⟩
  have q := hl i σ H hi p
  by_cases hlt : i < xs.length
  · refine .inr ⟨⟨xs, xs[i], q, by simp [hlt]⟩, Pv (i + 1), fun σ' H' p' => ⟨xs.length - (i + 1), by omega, rfl, hlt, p'⟩, fun x H' y => ?_⟩
    obtain ⟨e, y⟩ := y
    subst e
    exact hs i x σ _ (y xs q) p
  · have e : i = xs.length := by omega
    subst e
    exact .inl ⟨⟨xs, q, Nat.le_refl _⟩, hd σ H p⟩
theorem for_R {H : Hp} {lo : Int} {n : Nat} {B : (L2.St → Hp → Prop) → L2.St → Hp → Prop} {nx : L2.St → Hp → Prop} (Pv : Nat → L2.St → Hp → Prop) (h0 : Pv 0 σ H)
    (hs : ∀ i σ H, i < n → Pv i σ H → g (.int (lo + i)) σ H fun σ2 H2 => B (Pv (i + 1)) σ2 H2) (hd : ∀ σ H, Pv n σ H → nx σ H) :
    ∃ W : Nat → Nat → L2.St → Hp → Prop, (∃ m, W 0 m σ H) ∧ ∀ i m σ H, W i m σ H →
      ((Itr lo n).stop i H ∧ nx σ H) ∨ ((Itr lo n).go i H ∧ ∃ N : L2.St → Hp → Prop, (∀ σ' H', N σ' H' → ∃ m', m' < m ∧ W (i + 1) m' σ' H') ∧ ∀ x H', (Itr lo n).yld i H x H' → g x σ H' fun σ2 H2 => B N σ2 H2) := by
  refine ⟨fun i m σ H => m = n - i ∧ i ≤ n ∧ Pv i σ H, ⟨n, by simp, Nat.zero_le _, h0⟩, ?_⟩
  rintro i m σ H ⟨rfl, hi, p⟩
  by_cases hlt : i < n
  · refine .inr ⟨hlt, Pv (i + 1), fun σ' H' p' => ⟨n - (i + 1), by omega, rfl, hlt, p'⟩, fun x H' y => ?_⟩
    obtain ⟨e, y⟩ := y
    subst e y
    exact hs i σ _ hlt p
  · have e : i = n := by omega
    subst e
    exact .inl ⟨Nat.le_refl _, hd σ H p⟩
end
end My
namespace My
open PySem PySem.Spec PyProof.Rows L2
structure Fn (K : PySem.W.Frag) (mg : Str → Option Value) (x : Str) (st : Stmt) : Prop where
  ex : ∃ (f : Addr) (fd : FuncData), Fun K x x st f fd ∧ mg x = some (.ref f)
section
variable {P : Program} {w : World} {K : PySem.W.Frag} {mg : Str → Option Value} {base : Heap}
theorem Knows.mk' {x : Str} {st : Stmt} {N ps : List Str} {k : Nat} {sp : Sp} (D : Fn K mg x st) (S : FnScope N ps (defScope st))
    (hb : ∀ (kV doc pm : Value) (an : Option Addr) (cdv ct : Value) (us : List Value), us.length = ps.length → bindArgs (PySem.W.fnOf x x (defArgs st) (defBody st) (defScope st) .none kV doc pm an cdv ct) ⟨us, []⟩ = pure (ps.zip us))
    (len : ∀ vs H Q E, sp vs H Q E → vs.length = ps.length)
    (hbody : ∀ (f : Addr) (cdv : Value) (A : Around) (outer : List Env) (s : Shared) (H : Hp) (vs : List V) (Q : VK) (E : XK), Room k (A.deeper (envOfC x (defScope st) s.heap.objs.size f cdv)) → sp vs H Q E →
      ∃ t, PSs (cxOf (L2.CX P w) P w K mg base N x (defScope st) f cdv A outer s H E) (defBody st) t ∧ t { nx := fun _ H' => Q .non H', rt := Q } (start N vs) H) : Knows P w K mg base (k + 1) x ps sp := by
  obtain ⟨f, fd, F, g⟩ := D.ex
  exact ⟨f, fd, F.okX S len fun cdv A outer s H vs Q E hr h => hbody f cdv A outer s H vs Q E hr h, g, F.kp, F.binds hb⟩
theorem fnok_mk {x : Str} {st : Stmt} {f : Addr} {fd : FuncData} {N ps : List Str} {k : Nat} {sp : Sp} (F : Fun K x x st f fd) (S : FnScope N ps (defScope st)) (len : ∀ vs H Q E, sp vs H Q E → vs.length = ps.length)
    (hbody : ∀ (cdv : Value) (A : Around) (outer : List Env) (s : Shared) (H : Hp) (vs : List V) (Q : VK) (E : XK), Room k (A.deeper (envOfC x (defScope st) s.heap.objs.size f cdv)) → sp vs H Q E →
      ∃ t, PSs (cxOf (L2.CX P w) P w K mg base N x (defScope st) f cdv A outer s H E) (defBody st) t ∧ t { nx := fun _ H' => Q .non H', rt := Q } (start N vs) H) : FnOk P w K mg base (L2.CX P w) (k + 1) f fd ps sp :=
  F.okX S len fun cdv A outer s H vs Q E hr h => hbody cdv A outer s H vs Q E hr h
theorem Knows.mono {x : Str} {ps : List Str} {j k : Nat} {sp : Sp} (c : Knows P w K mg base j x ps sp) (h : j ≤ k) : Knows P w K mg base k x ps sp := by
  obtain ⟨f, fd, F, a, b, d⟩ := c.ex
  exact ⟨f, fd, F.mono h, a, b, d⟩
end
theorem pe_powc {X : Cx} {a b v : Int} {j1 j2 : Nat} {p1 p2 pos : Pos} (h : CPow a b) (e : a ^ b.toNat = v) : PE X (.BinOp (.Constant (.int a) j1 p1) .Pow (.Constant (.int b) j2 p2) pos) (tC (.int v)) :=
  ⟨fun pins s σ H Q I q => (pe_op op_pow pe_int pe_int).run pins s σ H Q I ⟨a, b, rfl, rfl, h, (show Q (.int (a ^ b.toNat)) H from e ▸ q)⟩⟩
theorem cdivw {i j : Int} (h0 : 0 < j) (h : j < 2 ^ 200) : CDivW i j := wide_div (b := 200) h0 (by omega) (by decide) (by decide)
theorem pe_gl {X : Cx} {x : Str} {i : Int} {pos : Pos} (hm : ∃ t, X.mg x = some (.int i t)) (hg : Gl X x := by rfl) (hd : (x == ("__debug__" : Str)) = false := by decide) : PE X (.Name x pos) (tC (.int i)) := by
  obtain ⟨t, h⟩ := hm
  exact pe_glob hg h ⟨t, rfl⟩ hd
structure Ec where
  (BadWheel BadRule BadSeen BadGaps BadSpan BadLong NoGap NoSpan WrapError Reader : Addr)
/-! ### equality of lists of ints -/
section
variable {K : PySem.W.Frag} {H : Hp} {a b : Addr} {Q : VK}
theorem dpAll_ints : ∀ ns : List Int, DpAll K H (ns.map V.int) (ns.map PyData.int)
  | [] => .nil
  | n :: r => .cons (.int n) (dpAll_ints r)
theorem dp_ints {ns : List Int} (h : SqL K H a (ns.map V.int)) : Dp K H (.ref a) (.list (ns.map PyData.int)) := .lst h (dpAll_ints ns)
theorem eqvAll_ints : ∀ ns ms : List Int, PyData.eqvAll (ns.map PyData.int) (ms.map PyData.int) = decide (ns = ms)
  | [], [] => rfl
  | [], _ :: _ => rfl
  | _ :: _, [] => rfl
  | x :: r, y :: t => by
    simp only [List.map_cons, PyData.eqvAll, PyData.eqv, eqvAll_ints r t]
    by_cases h : x = y <;> by_cases h' : r = t <;> simp [h, h']
theorem eqv_ints (ns ms : List Int) : PyData.eqv (.list (ns.map PyData.int)) (.list (ms.map PyData.int)) = decide (ns = ms) := by
  rw [PyData.eqv]
  exact eqvAll_ints ns ms
theorem g_eqInts {ns ms : List Int} (h1 : SqL K H a (ns.map V.int)) (h2 : SqL K H b (ms.map V.int)) (q : Q (.bl (decide (ns = ms))) H) : rEqD K (.ref a) (.ref b) H Q :=
  ⟨_, _, dp_ints h1, dp_ints h2, PySem.W.ke_shaped_ints _, PySem.W.ke_shaped_ints _, by rw [eqv_ints]; exact q⟩
theorem g_neInts {ns ms : List Int} (h1 : SqL K H a (ns.map V.int)) (h2 : SqL K H b (ms.map V.int)) (q : Q (.bl (!decide (ns = ms))) H) : rNeD K (.ref a) (.ref b) H Q :=
  ⟨_, _, dp_ints h1, dp_ints h2, PySem.W.ke_shaped_ints _, PySem.W.ke_shaped_ints _, by rw [eqv_ints]; exact q⟩
theorem g_sortedI {ns : List Int} (h : SqL K H a (ns.map V.int)) (q : ∀ (ns' : List Int) (p : Addr), ns'.Perm ns → ns'.Pairwise (· ≤ ·) → H p = none → Q (.ref p) (upd H p (.lst (ns'.map V.int)))) : rSortedI K [.ref a] H Q := ⟨a, ns, rfl, h, q⟩
end
theorem take_more {α : Type} : ∀ {l : List α} {i : Nat} {x : α}, l[i]? = some x → l.take (i + 1) = l.take i ++ [x]
  | [], i, x, h => by simp at h
  | a :: l, 0, x, h => by
    have e : a = x := Option.some.inj h
    subst e
    rfl
  | a :: l, i + 1, x, h => by
    have ih := take_more (l := l) (i := i) (x := x) h
    show a :: l.take (i + 1) = a :: l.take i ++ [x]
    rw [ih]
    rfl
/-- sorted and of the same items: one list -/
theorem sorted_same : ∀ {l m : List Int}, l.Perm m → l.Pairwise (· ≤ ·) → m.Pairwise (· ≤ ·) → l = m := fun {l m} p h1 h2 =>
  List.Perm.eq_of_pairwise (le := fun a b => a ≤ b) (fun a b _ _ h1 h2 => Int.le_antisymm h1 h2) h1 h2 p
/-! ### like data: what the laws' own comparison is asked -/
inductive SD (H : Hp) : Nat → V → V → Prop
  | non {d : Nat} : SD H d .non .non
  | bl {d : Nat} (b : Bool) : SD H d (.bl b) (.bl b)
  | int {d : Nat} (i : Int) : SD H d (.int i) (.int i)
  | str {d : Nat} (x : Str) : SD H d (.str x) (.str x)
  | lst {d : Nat} {a b : Addr} {xs ys : List V} (h1 : H a = some (.lst xs)) (h2 : H b = some (.lst ys)) (hl : xs.length = ys.length) (hz : xs.length ≤ 100000) (hi : ∀ (i : Nat) x y, xs[i]? = some x → ys[i]? = some y → SD H d x y) : SD H (d + 1) (.ref a) (.ref b)
  | tup {d : Nat} {a b : Addr} {xs ys : List V} (h1 : H a = some (.tup xs)) (h2 : H b = some (.tup ys)) (hl : xs.length = ys.length) (hz : xs.length ≤ 100000) (hi : ∀ (i : Nat) x y, xs[i]? = some x → ys[i]? = some y → SD H d x y) : SD H (d + 1) (.ref a) (.ref b)
theorem SD.same {H H' : Hp} (e : Same H H') {d : Nat} {x y : V} (h : SD H d x y) : SD H' d x y := by
  induction h with
  | non => exact .non
  | bl b => exact .bl b
  | int i => exact .int i
  | str x => exact .str x
  | lst h1 h2 hl hz _ ih => exact .lst (e _ _ h1) (e _ _ h2) hl hz ih
  | tup h1 h2 hl hz _ ih => exact .tup (e _ _ h1) (e _ _ h2) hl hz ih
theorem SD.flat {H : Hp} {d : Nat} {xs ys : List V} (h : ∀ x ∈ xs, ∀ d, SD H d x x) (e : xs = ys) : ∀ (i : Nat) x y, xs[i]? = some x → ys[i]? = some y → SD H d x y := fun i x y hx hy => by
  subst e
  rw [hx] at hy
  cases hy
  exact h x (List.mem_of_getElem? hx) d
def sp_same (d : Nat) : Sp := fun vs H Q _ => ∃ x y : V, vs = [x, y] ∧ SD H d x y ∧ ∀ H', Same H H' → Q (.bl true) H'
/-- what the recursion may lean on -/
def sp_samep : Nat → Sp
  | 0 => fun _ _ _ _ => False
  | d + 1 => sp_same d
theorem knows_false {P : Program} {w : World} {K : PySem.W.Frag} {mg : Str → Option Value} {base : Heap} {x : Str} {st : Stmt} {ps : List Str} (D : Fn K mg x st)
    (hb : ∀ (kV doc pm : Value) (an : Option Addr) (cdv ct : Value) (us : List Value), us.length = ps.length → bindArgs (PySem.W.fnOf x x (defArgs st) (defBody st) (defScope st) .none kV doc pm an cdv ct) ⟨us, []⟩ = pure (ps.zip us)) :
    Knows P w K mg base 0 x ps (sp_samep 0) := by
  obtain ⟨f, fd, F, g⟩ := D.ex
  exact ⟨f, fd, ⟨fun _ _ _ _ h => h.elim, fun _ _ _ _ _ _ _ _ _ _ _ _ _ h => h.elim⟩, g, F.kp, F.binds hb⟩
section
variable {K : PySem.W.Frag} {H : Hp} {x : V} {a b : String} {r r1 r2 : Bool} {Q : VK} {tp p q : Addr}
theorem g_isi (ty : TyX K H x (.type a)) (e : kitB a b = some r) (k : Q (.bl r) H) : rIsi K [x, .ty b] H Q := ⟨x, .ty b, .type a, .type b, r, rfl, .ty b, ty, kit_ty e, k⟩
theorem g_isiTL (ty : TyX K H x (.type a)) (h : H tp = some (.tup [.ty "tuple", .ty "list"])) (e1 : kitB a "tuple" = some r1) (e2 : kitB a "list" = some r2) (hr : (r1 || r2) = r) (k : Q (.bl r) H) : rIsiT K [x, .ref tp] H Q := by
  subst hr
  refine ⟨x, tp, _, .type a, [.type "tuple", .type "list"], r1 || r2, rfl, h, .cons (.ty _) (.cons (.ty _) .nil), ty, ?_, k⟩
  refine kitAny_cons (kit_ty e1) (fun h1 => kitAny_cons (b := r2) (kit_ty e2) (fun h2 => ?_) (fun h2 => ?_)) (fun h1 => ?_)
  · rw [kitAny_nil, h1, h2]; rfl
  · rw [h2]; simp
  · rw [h1]; simp
theorem dpAll_strs : ∀ ns : List Str, DpAll K H (ns.map V.str) (ns.map PyData.str)
  | [] => .nil
  | n :: r => .cons (.str n) (dpAll_strs r)
theorem eqvAll_strs : ∀ ns ms : List Str, PyData.eqvAll (ns.map PyData.str) (ms.map PyData.str) = decide (ns = ms)
  | [], [] => rfl
  | [], _ :: _ => rfl
  | _ :: _, [] => rfl
  | x :: r, y :: t => by
    simp only [List.map_cons, PyData.eqvAll, PyData.eqv, eqvAll_strs r t]
    by_cases h : x = y <;> by_cases h' : r = t <;> simp [h, h']
theorem canAll_strs : ∀ ns : List Str, ns.all PyData.strOk = true → PyData.canLayAll0 (ns.map PyData.str) = true
  | [], _ => rfl
  | x :: r, h => by
    rw [List.all_cons, Bool.and_eq_true] at h
    simp [PyData.canLayAll0, PyData.canLay0, canAll_strs r h.2, h.1]
theorem depthAll_strs : ∀ ns : List Str, PyData.depthAll (ns.map PyData.str) = 0
  | [] => rfl
  | _ :: r => by simp [PyData.depthAll, PyData.depth, depthAll_strs r]
theorem shaped_strs {ns : List Str} (h : ns.all PyData.strOk = true) : SeqAt.shaped (.list (ns.map PyData.str)) = true := by
  simp [SeqAt.shaped, PyData.canLay0, PyData.depth, canAll_strs ns h, depthAll_strs]
theorem g_eqStrs {ns ms : List Str} (h1 : SqL K H p (ns.map V.str)) (h2 : SqL K H q (ms.map V.str)) (o1 : ns.all PyData.strOk = true) (o2 : ms.all PyData.strOk = true) (k : Q (.bl (decide (ns = ms))) H) : rEqD K (.ref p) (.ref q) H Q :=
  ⟨_, _, .lst h1 (dpAll_strs ns), .lst h2 (dpAll_strs ms), shaped_strs o1, shaped_strs o2, by rw [PyData.eqv, eqvAll_strs]; exact k⟩
theorem g_neStrs {ns ms : List Str} (h1 : SqL K H p (ns.map V.str)) (h2 : SqL K H q (ms.map V.str)) (o1 : ns.all PyData.strOk = true) (o2 : ms.all PyData.strOk = true) (k : Q (.bl (!decide (ns = ms))) H) : rNeD K (.ref p) (.ref q) H Q :=
  ⟨_, _, .lst h1 (dpAll_strs ns), .lst h2 (dpAll_strs ms), shaped_strs o1, shaped_strs o2, by rw [PyData.eqv, eqvAll_strs]; exact k⟩
end
/-! ### a class's methods -/
structure FnI (K : PySem.W.Frag) (C : Addr) (qual : Str) (st : Stmt) : Prop where
  ex : ∃ (f : Addr) (fd : FuncData), Fun K "__init__" qual st f fd ∧ Mk K C f
structure FnM (K : PySem.W.Frag) (C : Addr) (m qual : Str) (st : Stmt) : Prop where
  ex : ∃ (f : Addr) (fd : FuncData), Fun K m qual st f fd ∧ Meth K C m f
structure FnD (K : PySem.W.Frag) (C : Addr) (m qual : Str) (dvs : List V) (st : Stmt) : Prop where
  ex : ∃ (f : Addr) (fd : FuncData), FunD K m qual (defArgs st) (defBody st) (defScope st) dvs [] f fd ∧ Meth K C m f
structure KnowsI (P : Program) (w : World) (K : PySem.W.Frag) (mg : Str → Option Value) (base : Heap) (k : Nat) (C : Addr) (ps : List Str) (sp : Sp) : Prop where
  ex : ∃ (f : Addr) (fd : FuncData), FnOk P w K mg base (L2.CX P w) k f fd ps sp ∧ Mk K C f ∧ Binds K fd ps []
structure KnowsM (P : Program) (w : World) (K : PySem.W.Frag) (mg : Str → Option Value) (base : Heap) (k : Nat) (C : Addr) (m : Str) (ps : List Str) (dvs : List V) (sp : Sp) : Prop where
  ex : ∃ (f : Addr) (fd : FuncData) (ds : List Value), FnOk P w K mg base (L2.CX P w) k f fd ps sp ∧ Meth K C m f ∧ Binds K fd ps ds ∧ Vals dvs ds
section
variable {P : Program} {w : World} {K : PySem.W.Frag} {mg : Str → Option Value} {base : Heap}
theorem KnowsI.mk' {C : Addr} {qual : Str} {st : Stmt} {N ps : List Str} {k : Nat} {sp : Sp} (D : FnI K C qual st) (S : FnScope N ps (defScope st))
    (hb : ∀ (kV doc pm : Value) (an : Option Addr) (cdv ct : Value) (us : List Value), us.length = ps.length → bindArgs (PySem.W.fnOf "__init__" qual (defArgs st) (defBody st) (defScope st) .none kV doc pm an cdv ct) ⟨us, []⟩ = pure (ps.zip us))
    (len : ∀ vs H Q E, sp vs H Q E → vs.length = ps.length)
    (hbody : ∀ (f : Addr) (cdv : Value) (A : Around) (outer : List Env) (s : Shared) (H : Hp) (vs : List V) (Q : VK) (E : XK), Room k (A.deeper (envOfC qual (defScope st) s.heap.objs.size f cdv)) → sp vs H Q E →
      ∃ t, PSs (cxOf (L2.CX P w) P w K mg base N qual (defScope st) f cdv A outer s H E) (defBody st) t ∧ t { nx := fun _ H' => Q .non H', rt := Q } (start N vs) H) : KnowsI P w K mg base (k + 1) C ps sp := by
  obtain ⟨f, fd, F, m⟩ := D.ex
  exact ⟨f, fd, F.okX S len fun cdv A outer s H vs Q E hr h => hbody f cdv A outer s H vs Q E hr h, m, F.binds hb⟩
theorem KnowsM.mk' {C : Addr} {m qual : Str} {st : Stmt} {N ps : List Str} {k : Nat} {sp : Sp} (D : FnM K C m qual st) (S : FnScope N ps (defScope st))
    (hb : ∀ (kV doc pm : Value) (an : Option Addr) (cdv ct : Value) (us : List Value), us.length = ps.length → bindArgs (PySem.W.fnOf m qual (defArgs st) (defBody st) (defScope st) .none kV doc pm an cdv ct) ⟨us, []⟩ = pure (ps.zip us))
    (len : ∀ vs H Q E, sp vs H Q E → vs.length = ps.length)
    (hbody : ∀ (f : Addr) (cdv : Value) (A : Around) (outer : List Env) (s : Shared) (H : Hp) (vs : List V) (Q : VK) (E : XK), Room k (A.deeper (envOfC qual (defScope st) s.heap.objs.size f cdv)) → sp vs H Q E →
      ∃ t, PSs (cxOf (L2.CX P w) P w K mg base N qual (defScope st) f cdv A outer s H E) (defBody st) t ∧ t { nx := fun _ H' => Q .non H', rt := Q } (start N vs) H) : KnowsM P w K mg base (k + 1) C m ps [] sp := by
  obtain ⟨f, fd, F, mm⟩ := D.ex
  exact ⟨f, fd, [], F.okX S len fun cdv A outer s H vs Q E hr h => hbody f cdv A outer s H vs Q E hr h, mm, F.binds hb, .nil⟩
theorem KnowsD.mk' {C : Addr} {m qual : Str} {st : Stmt} {N ps : List Str} {k : Nat} {sp : Sp} (D : FnD K C m qual [.non] st) (S : FnScope N ps (defScope st))
    (hb : ∀ (T : Addr) (kV doc pm : Value) (an : Option Addr) (cdv ct : Value) (us its : List Value), us.length = ps.length → its.length = 1 →
      ∃ k, bindArgs (PySem.W.fnOf m qual (defArgs st) (defBody st) (defScope st) (.ref T) kV doc pm an cdv ct) ⟨us, []⟩ = seqItems? (.ref T) >>= k ∧ k (some its.toArray) = pure (ps.zip (us ++ its.drop 1)))
    (len : ∀ vs H Q E, sp vs H Q E → vs.length = ps.length)
    (hbody : ∀ (f : Addr) (cdv : Value) (A : Around) (outer : List Env) (s : Shared) (H : Hp) (vs : List V) (Q : VK) (E : XK), Room k (A.deeper (envOfC qual (defScope st) s.heap.objs.size f cdv)) → sp vs H Q E →
      ∃ t, PSs (cxOf (L2.CX P w) P w K mg base N qual (defScope st) f cdv A outer s H E) (defBody st) t ∧ t { nx := fun _ H' => Q .non H', rt := Q } (start N vs) H) : KnowsM P w K mg base (k + 1) C m ps [] sp := by
  obtain ⟨f, fd, F, mm⟩ := D.ex
  obtain ⟨ds, hd, hB⟩ := F.binds1 ps.length 1 (by simp) (by simp) hb
  exact ⟨f, fd, ds, F.ok S len fun cdv A outer s H vs Q E hr h => hbody f cdv A outer s H vs Q E hr h, mm, hB, hd⟩
end
/-- with all arguments, and with the last one by default -/
structure KnowsM2 (P : Program) (w : World) (K : PySem.W.Frag) (mg : Str → Option Value) (base : Heap) (k : Nat) (C : Addr) (m : Str) (ps : List Str) (sp : Sp) : Prop where
  three : KnowsM P w K mg base k C m ps [] sp
  two : KnowsM P w K mg base k C m ps [.non] sp
section
variable {P : Program} {w : World} {K : PySem.W.Frag} {mg : Str → Option Value} {base : Heap}
theorem KnowsD.mk2 {C : Addr} {m qual : Str} {st : Stmt} {N ps : List Str} {k : Nat} {sp : Sp} (D : FnD K C m qual [.non] st) (S : FnScope N ps (defScope st))
    (hb : ∀ (T : Addr) (kV doc pm : Value) (an : Option Addr) (cdv ct : Value) (us its : List Value), us.length = ps.length → its.length = 1 →
      ∃ k, bindArgs (PySem.W.fnOf m qual (defArgs st) (defBody st) (defScope st) (.ref T) kV doc pm an cdv ct) ⟨us, []⟩ = seqItems? (.ref T) >>= k ∧ k (some its.toArray) = pure (ps.zip (us ++ its.drop 1)))
    (hb2 : ∀ (T : Addr) (kV doc pm : Value) (an : Option Addr) (cdv ct : Value) (us its : List Value), us.length = ps.length - 1 → its.length = 1 →
      ∃ k, bindArgs (PySem.W.fnOf m qual (defArgs st) (defBody st) (defScope st) (.ref T) kV doc pm an cdv ct) ⟨us, []⟩ = seqItems? (.ref T) >>= k ∧ k (some its.toArray) = pure (ps.zip (us ++ its.drop 0)))
    (len : ∀ vs H Q E, sp vs H Q E → vs.length = ps.length)
    (hbody : ∀ (f : Addr) (cdv : Value) (A : Around) (outer : List Env) (s : Shared) (H : Hp) (vs : List V) (Q : VK) (E : XK), Room k (A.deeper (envOfC qual (defScope st) s.heap.objs.size f cdv)) → sp vs H Q E →
      ∃ t, PSs (cxOf (L2.CX P w) P w K mg base N qual (defScope st) f cdv A outer s H E) (defBody st) t ∧ t { nx := fun _ H' => Q .non H', rt := Q } (start N vs) H) (hps : 0 < ps.length := by decide) : KnowsM2 P w K mg base (k + 1) C m ps sp := by
  refine ⟨KnowsD.mk' D S hb len hbody, ?_⟩
  obtain ⟨f, fd, F, mm⟩ := D.ex
  obtain ⟨ds, hd, hB⟩ := F.binds1 (ps.length - 1) 0 (by simp) (by simp; omega) hb2
  exact ⟨f, fd, ds, F.ok S len fun cdv A outer s H vs Q E hr h => hbody f cdv A outer s H vs Q E hr h, mm, hB, hd⟩
end
section
variable {X : Cx} {k : Nat} {C : Addr} {m x : Str} {ps : List Str} {sp : Sp} {E : XK} {o e : Expr} {es : List Expr} {ta : TE} {t : TA} {apos pos p : Pos}
theorem pe_methN {dvs : List V} {pl : Sem Bool} (he : PE X o ta) (c : Cls X.K C) (h : KnowsM X.prog X.w X.K X.mg X.base k C m ps dvs sp) (hr : Room k X.A) (hx : Passes (L2.CX X.prog X.w) X E) (ha : PA X (e :: es) t)
    (hst : starEach (e :: es) X.env = (false, eval e X.env) :: starEach es X.env := by rfl) (hpl : (backTo pos (starEach es X.env)).any (·.1) = false := by rfl)
    (ht : eval (.Call (.Attribute o m apos) (e :: es) [] pos) X.env = (do
      let ov ← eval o X.env
      standAt apos.atName
      let (f, first) ← holding [ov] (getMethod ov m pl)
      callWith pos f first (backTo pos (starEach (e :: es) X.env)) (backToKw pos (keywordEach [] X.env))) := by rfl) :
    PE X (.Call (.Attribute o m apos) (e :: es) [] pos) (tMeth C m sp dvs E ta t) := by
  obtain ⟨f, fd, ds, F, mm, hb, hd⟩ := h.ex
  exact pe_meth he c mm F hr hb hd hx ha hst hpl ht
theorem pe_methN0 {pl : Sem Bool} (he : PE X o ta) (c : Cls X.K C) (h : KnowsM X.prog X.w X.K X.mg X.base k C m ps [] sp) (hr : Room k X.A) (hx : Passes (L2.CX X.prog X.w) X E)
    (ht : eval (.Call (.Attribute o m apos) [] [] pos) X.env = (do
      let ov ← eval o X.env
      standAt apos.atName
      let (f, first) ← holding [ov] (getMethod ov m pl)
      callWith pos f first (backTo pos (starEach [] X.env)) (backToKw pos (keywordEach [] X.env))) := by rfl) :
    PE X (.Call (.Attribute o m apos) [] [] pos) (tMeth C m sp [] E ta tNil) := by
  obtain ⟨f, fd, ds, F, mm, hb, hd⟩ := h.ex
  exact pe_meth0 he c mm F hr hb hd hx ht
theorem pe_makeN (h : KnowsI X.prog X.w X.K X.mg X.base k C ps sp) (hr : Room (k + 1) X.A) (hm : X.mg x = some (.ref C)) (hx : Passes (L2.CX X.prog X.w) X E)
    (ha : PA X (e :: es) t) (hg : Gl X x := by rfl) (hdb : (x == ("__debug__" : Str)) = false := by decide) (he : starEach (e :: es) X.env = (false, eval e X.env) :: starEach es X.env := by rfl) (hpl : (backTo pos (starEach es X.env)).any (·.1) = false := by rfl) :
    PE X (.Call (.Name x p) (e :: es) [] pos) (tMake C sp [] E t) := by
  obtain ⟨f, fd, F, M, hb⟩ := h.ex
  exact pe_make M F hr hg hm hb .nil hx ha hdb he hpl
/-- whatever stands in the frame -/
theorem passA {W : WX} (tk : Takes X W) : Passes (L2.CX X.prog X.w) X (fun cls d H => ∀ σ, W cls d σ H) := passes_call (W := W) tk (fun _ _ σ _ h => h σ)
end
section
variable {K : PySem.W.Frag} {σ : L2.St} {H : Hp} {ta : TE} {t : TA} {Q : VK} {f m : Str} {D : Ends} {tv : TE} {C : Addr} {sp : Sp} {E : XK} {dvs : List V}
def rFld (K : PySem.W.Frag) (f : Str) : V → Hp → VK → Prop := fun x H Q => ∃ a C dx fs v, x = .ref a ∧ H a = some (.ins C dx fs) ∧ Cls K C ∧ NoAttr K C f ∧ fs.lookup f = some v ∧ Q v H
theorem g_fld0 (q : ta σ H fun x H1 => rFld K f x H1 Q) : tFld K ta f σ H Q := q
theorem g_fldR {p dx : Addr} {fs : List (Str × V)} {v : V} (c : Cls K C) (na : NoAttr K C f) (h : H p = some (.ins C dx fs)) (l : fs.lookup f = some v) (q : Q v H) : rFld K f (.ref p) H Q := ⟨p, C, dx, fs, v, rfl, h, c, na, l, q⟩
theorem g_sfld (q : tv σ H fun y H1 => ta σ H1 fun x H2 => ∃ a C dx fs, x = .ref a ∧ H2 a = some (.ins C dx fs) ∧ Cls K C ∧ NoAttr K C f ∧ fs.length < 1000 ∧ D.nx σ (upd H2 a (.ins C dx (putF f y fs)))) : sFld K ta tv f D σ H := q
theorem g_meth (q : ta σ H fun x H1 => ∃ a dx fs, x = .ref a ∧ H1 a = some (.ins C dx fs) ∧ fs.lookup m = none ∧ t σ H1 fun vs H2 => sp (x :: (vs ++ dvs)) H2 Q E) : tMeth C m sp dvs E ta t σ H Q := q
theorem g_make (q : t σ H fun vs H1 => ∀ x dx, H1 x = none → H1 dx = none → dx ≠ x → sp (.ref x :: (vs ++ dvs)) (upd (upd H1 dx (.own x)) x (.ins C dx [])) (fun v H2 => v = .non ∧ Q (.ref x) H2) E) : tMake C sp dvs E t σ H Q := q
theorem g_par {i j : Nat} (q : t σ H fun vs H1 => ∃ v w, vs = [v, w] ∧ D.nx ((σ.set i (some v)).set j (some w)) H1) : tPar i j t D σ H := q
end
def sp_law (K : PySem.W.Frag) : Sp := fun vs H Q _ => ∃ (s : Addr) (ns : List Int), vs = [.ref s] ∧ SqL K H s (ns.map V.int) ∧ ns.length ≤ 63 ∧ ∀ H', Q (.bl true) H'
theorem walk {l : PySem.W.OpenLaw} {k : Nat} {q : Program} {loose : List Str} {XP : (Str → Option Value) → Heap → Prop} {YP : World → Heap → Prop} {d : DefRec} {K : Params → PySem.W.Frag} (hn : l.most = some 63) (hdf : d.params.defaults = []) (hr : Room k callerA)
    (hY : ∀ (w : World) (h : Heap), YP w h → (K w.params).In h)
    (F : ∀ (w : World) (mg : Str → Option Value) (fa : Addr) (h : Heap), (K w.params).In h → h.Ns mainGlobals mg → mg d.name = some (.ref fa) →
      ∃ fd : FuncData, (∀ (s : Shared) (u : Value), BindsTo s fd ⟨[u], []⟩ [("_law_script", u)]) ∧ ∀ base : Heap, (K w.params).In base → base.Ns mainGlobals mg → FnOk l.prog w (K w.params) mg base (L2.CX l.prog w) k fa fd ["_law_script"] (sp_law (K w.params))) :
    PySem.W.WalkO q loose XP YP l.row.toRowW d [] (fun f vs => PySem.call f vs) :=
  L2.walk_of (n := 63) (k := k) (x := "_law_script") (CX := fun w => L2.CX l.prog w) (sp := fun w => sp_law (K w.params)) hn (by decide) hdf hr hY F (fun _ _ a ns hl _ hS => ⟨a, ns, rfl, hS, hl, fun _ => rfl⟩) fun _ _ _ _ _ h => by
    obtain ⟨_, _, _, _, _, _, _, _, _, _, _, _, z⟩ := h
    exact z
end My
local macro_rules | `(tactic| walk_at "go0") => `(tactic| first
  | with_reducible refine My.g_var0 ?_
  | with_reducible refine My.g_var1 ?_
  | with_reducible refine My.g_var2 ?_
  | with_reducible refine My.g_var3 ?_
  | with_reducible refine My.g_var4 ?_
  | with_reducible refine My.g_var5 ?_
  | with_reducible refine My.g_var6 ?_
  | with_reducible refine My.g_var7 ?_
  | with_reducible refine My.g_var8 ?_
  | with_reducible refine My.g_var9 ?_
  | with_reducible refine My.g_var10 ?_
  | with_reducible refine My.g_var11 ?_
  | with_reducible refine My.g_var12 ?_
  | with_reducible refine My.g_var13 ?_
  | with_reducible refine My.g_var14 ?_
  | with_reducible refine My.g_var15 ?_
  | with_reducible refine My.g_var16 ?_
  | with_reducible refine My.g_var17 ?_
  | with_reducible refine My.g_var18 ?_
  | with_reducible refine My.g_var19 ?_
  | with_reducible refine My.g_var20 ?_
  | with_reducible refine My.g_var21 ?_
  | with_reducible refine My.g_var22 ?_
  | with_reducible refine My.g_var23 ?_
  | with_reducible refine My.g_var24 ?_
  | with_reducible refine My.g_var25 ?_
  | with_reducible refine My.g_c ?_
  | with_reducible refine My.g_op ?_
  | with_reducible refine My.g_rI0 ?_
  | with_reducible refine My.g_test ?_
  | with_reducible refine My.g_tB ?_
  | with_reducible refine My.g_not ?_
  | with_reducible refine My.g_and ?_
  | with_reducible refine My.g_or ?_
  | with_reducible refine My.g_andV ?_
  | with_reducible refine My.g_orV ?_
  | with_reducible refine My.g_notV ?_
  | with_reducible refine My.g_chain ?_
  | with_reducible refine My.g_nil ?_
  | with_reducible refine My.g_cons ?_
  | with_reducible refine My.g_call ?_
  | with_reducible refine My.g_callB ?_
  | with_reducible refine My.g_lst ?_
  | with_reducible refine My.g_tup ?_
  | with_reducible refine My.g_seq ?_
  | with_reducible refine My.g_asg ?_
  | with_reducible refine My.g_name0 ?_
  | with_reducible refine My.g_name1 ?_
  | with_reducible refine My.g_name2 ?_
  | with_reducible refine My.g_name3 ?_
  | with_reducible refine My.g_name4 ?_
  | with_reducible refine My.g_name5 ?_
  | with_reducible refine My.g_name6 ?_
  | with_reducible refine My.g_name7 ?_
  | with_reducible refine My.g_name8 ?_
  | with_reducible refine My.g_name9 ?_
  | with_reducible refine My.g_name10 ?_
  | with_reducible refine My.g_name11 ?_
  | with_reducible refine My.g_name12 ?_
  | with_reducible refine My.g_name13 ?_
  | with_reducible refine My.g_name14 ?_
  | with_reducible refine My.g_name15 ?_
  | with_reducible refine My.g_name16 ?_
  | with_reducible refine My.g_name17 ?_
  | with_reducible refine My.g_name18 ?_
  | with_reducible refine My.g_name19 ?_
  | with_reducible refine My.g_name20 ?_
  | with_reducible refine My.g_name21 ?_
  | with_reducible refine My.g_name22 ?_
  | with_reducible refine My.g_name23 ?_
  | with_reducible refine My.g_name24 ?_
  | with_reducible refine My.g_name25 ?_
  | with_reducible refine L2.iteT ?_
  | with_reducible refine L2.iteF ?_
  | with_reducible refine My.ite_nT ?_
  | with_reducible refine My.ite_eqT ?_
  | with_reducible refine My.ite_neF ?_
  | ((with_reducible refine' My.ite_strF ?hs ?_); (case hs => decide))
  | ((with_reducible refine' My.ite_strT ?hs ?_); (case hs => decide))
  | with_reducible refine My.ite_nF ?_
  | with_reducible refine My.g_ret ?_
  | with_reducible refine My.g_par ?_
  | with_reducible refine My.g_fld0 ?_
  | with_reducible refine My.g_sfld ?_
  | with_reducible refine My.g_meth ?_
  | with_reducible refine My.g_make ?_
  | with_reducible refine My.g_retN ?_
  | with_reducible refine My.g_drop ?_
  | with_reducible refine My.g_next ?_
  | with_reducible refine My.g_un ?_
  | with_reducible refine My.g_sub ?_
  | with_reducible refine My.g_for ?_
  | with_reducible refine My.g_lc ?_
  | with_reducible refine My.g_iL ?_
  | with_reducible refine My.g_iT ?_
  | with_reducible refine My.g_iR1 ?_
  | with_reducible refine My.g_iR2 ?_
  | with_reducible refine My.g_iE ?_
  | with_reducible refine My.g_bm ?_
  | with_reducible refine My.g_yes ?_
  | with_reducible refine My.g_isN ?_
  | with_reducible refine My.g_notN ?_
  | with_reducible refine My.g_min2 ?_
  | with_reducible refine My.g_max2 ?_
  | with_reducible refine My.g_abs ?_
  | with_reducible refine My.g_intI ?_
  | with_reducible refine My.g_intB ?_
  | ((with_reducible refine' My.g_sz ?gz ?_); (case gz => simp))
  | with_reducible refine My.g_rU ?_
  | ((with_reducible refine' My.g_rI ?gi ?_); (case gi => first
      | (show (0 : Int) < _; first | assumption | decide | omega)
      | exact My.cdivw (by omega) (by omega)
      | exact (show L2.CMul _ _ from Or.inl ⟨by omega, by omega⟩)
      | exact (show L2.CMul _ _ from Or.inr ⟨by omega, by omega⟩)))
  | ((with_reducible refine' My.g_eq ?ge ?_); (case ge => rfl))
  | ((with_reducible refine' My.g_ne ?ge ?_); (case ge => rfl))
  | with_reducible refine Exists.intro _ (And.intro rfl ?_))
local macro_rules | `(tactic| walk_at "go1") => `(tactic| first | walk_at "go0" | with_reducible refine My.g_if ?_)
local macro_rules | `(tactic| walk_at "goE") => `(tactic| repeat (first | walk_at "go0" | with_reducible refine My.g_ifS ?_ | dsimp only))
local macro_rules | `(tactic| walk_at "go") => `(tactic| repeat (first | walk_at "go1" | with_reducible refine My.g_ifS ?_ | dsimp only))
local macro_rules | `(tactic| walk_at "goS") => `(tactic| repeat (first | walk_at "go1" | dsimp only))
local macro_rules | `(tactic| walk_at "dr") => `(tactic| first
  | assumption
  | exact My.Go.dr (by assumption)
  | (refine My.Dr.same ?_ (My.Same.new (by assumption)); walk_at "dr")
  | (refine My.Dr.same ?_ (by assumption); walk_at "dr")
  | (refine My.Dr.mut (by assumption) ?_ (by assumption); walk_at "dr"))
local macro_rules | `(tactic| walk_at "ne") => `(tactic| first
  | assumption
  | exact My.Dr.ne2 (by assumption) (by walk_at "dr")
  | exact Ne.symm (My.Dr.ne2 (by assumption) (by walk_at "dr"))
  | exact L2.ne_of_none (by walk_at "hp") (by assumption)
  | exact Ne.symm (L2.ne_of_none (by walk_at "hp") (by assumption)))
local macro_rules | `(tactic| walk_at "hp") => `(tactic| first
  | assumption
  | exact L2.upd_same
  | (refine My.upd_old ?_ (by assumption); walk_at "hp")
  | (refine My.Same.at (by assumption) ?_; walk_at "hp")
  | (refine My.Go.at (by assumption) ?_ ?_; ((walk_at "hp")); walk_at "ne"))
local macro_rules | `(tactic| walk_at "wp") => `(tactic| try simp only [List.map_cons, List.map_nil, L2.wipe, List.set_cons_succ, List.set_cons_zero])
namespace My
open PySem PySem.Spec PyProof.Rows L2
/-! ### set(xs), xs a list of ints -/
section
variable {P : Program} {w : World} {A : Around} {E : Value → Shared → Prop} {s : Shared}
set_option maxHeartbeats 3200000 in
theorem set_of_list {l : Addr} {items : Array Value} (ns : List Int) {Q : Value → Shared → Prop} (calm : A.handled = none) (hl : s.heap.IsList l items) (hi : IntsAre items.toList ns) (hb : ns.length + 1 < scanBound)
    (k : ∀ (h' : Heap) (tk c : Nat), SetR w h' s.heap.objs.size (fun j => decide (j ∈ ns)) c → c ≤ ns.length → (∀ b o, s.heap.get? b = some o → h'.get? b = some o) → Q (.ref s.heap.objs.size) { s with heap := h', toks := tk }) : wpAny (model P w) A (call (.type "set") [.ref l]) Q E s := by
  have len : items.size = ns.length := by rw [← Array.length_toList]; exact IntsAre.length hi
  obtain ⟨_, _, mro⟩ := PySem.F.called_set.mro
  have made := PySem.F.called_set.made
  have sub := PySem.F.called_set.sub
  have n1 := PySem.F.called_set.notType
  have n2 := PySem.F.called_set.canCreate
  have n3 := PySem.F.typeCall_set_1 (.ref l)
  refine wpAny_call (codeAny_of_tree (show wpAny _ _ (callAny (.type "set") _) _ _ _ from wpAny_pure ⟨Code.quiet_builtin _ (by decide +kernel), codeAny_builtin PySem.F.entry_type_call ?_⟩))
  rw [Around.under_plain (weight_type_call_type "set" [.ref l] []) rfl]
  repeat any_goals first | assumption | wp_step
  obtain ⟨h1, eh⟩ : ∃ h1 : Heap, h1 = s.heap.push { cls := .type "set", dict := none, data := .set #[] 0 (.fresh 0 0 (!w.params.followText "set-order")) } := ⟨_, rfl⟩
  refine codeAny_mono (code_set_led1 (.ref l) (E := E) (Q₁ := fun obj s1 => obj = .ref s.heap.objs.size ∧ s1 = { s with heap := h1 }) ⟨rfl, by rw [eh]⟩) fun r s1 hr => ?_
  match r, hr with
  | .error e, hr => exact hr
  | .ok (.ret obj), hr =>
    obtain ⟨rfl, rfl⟩ := hr
    have at0 : h1.get? s.heap.objs.size = some { cls := .type "set", dict := none, data := .set #[] 0 (.fresh 0 0 (!w.params.followText "set-order")) } := by rw [eh]; exact Heap.get?_push_size _ rfl
    have sz1 : h1.objs.size = s.heap.objs.size + 1 := by rw [eh]; exact Heap.size_push ..
    have old : ∀ b o, s.heap.get? b = some o → h1.get? b = some o := fun b o e => by rw [eh]; exact Heap.get?_push_of_some _ e
    have ty : Shared.TypeIs { s with heap := h1 } (.ref s.heap.objs.size) "set" := ⟨_, at0, rfl⟩
    have look := PySem.F.called_set.init.lookup
    have bind := PySem.F.called_set.init.bind (.ref s.heap.objs.size)
    repeat any_goals first | assumption | wp_step
    refine codeAny_mono (codeAny_call_builtin (R := wants (fun r s2 => r = .none ∧ ∃ h' tk c, s2 = { s with heap := h', toks := tk } ∧ SetR w h' s.heap.objs.size (fun j => decide (j ∈ ns)) c ∧ c ≤ ns.length ∧ (∀ b o, s.heap.get? b = some o → h'.get? b = some o)) E)
      PySem.F.called_set.init.plain PySem.F.entry_set_init (check_set_init_1 ty ?_)) fun r2 s2 hr2 => ?_
    · obtain ⟨⟨cl, dd, da, sl⟩, ol, cl', nl, da'⟩ := hl
      simp only at cl' da'
      subst cl' da'
      have ol1 := old _ _ ol
      have lt := Heap.lt_size ol
      have il : h1.IsList l items := ⟨_, ol1, rfl, nl, rfl⟩
      have s1 := PySem.F.sub_list_set
      have s2 := PySem.F.sub_list_frozenset
      have ne : (Value.type "list" == Value.type "dict") = false := by decide
      unfold Builtin.«set.__init__» noKeywords Builtin.Frozenset.updateFrom
      generalize eI : pyIter = PI
      wp_walk
      subst eI
      refine wpAny_pyIter_list (s := { s with heap := h1 }) il ?_
      refine wpAny_bind ?_
      refine wpAny_runValue ?_
      have nl1 : l ≠ h1.objs.size := Nat.ne_of_lt (by rw [sz1]; exact Nat.lt_succ_of_lt lt)
      have out : s.heap.objs.size ∉ [h1.objs.size, l] := by
        intro z
        simp only [List.mem_cons, List.not_mem_nil, or_false] at z
        rcases z with z | z
        · exact absurd (z.trans sz1) (Nat.ne_of_lt (Nat.lt_succ_self _))
        · exact absurd z.symm (Nat.ne_of_lt lt)
      have vals : ∀ (i : Nat) (v : Value), items[i]? = some v → ∃ z t, ns[i]? = some z ∧ v = .int z t := fun i v hv => by
        have lti : i < ns.length := len ▸ (Array.getElem?_eq_some_iff.mp hv).1
        obtain ⟨t, e⟩ := IntsAre.int_at hi i v (by rw [Array.getElem?_toList]; exact hv)
        refine ⟨ns[i], t, List.getElem?_eq_getElem lti, ?_⟩
        rw [e, List.getD_eq_getElem?_getD, List.getElem?_eq_getElem lti]
        rfl
      refine set_update_ints ((Walks.list (by simp [calm]) _ l nl1 items).toS) s.heap.objs.size out ns len hb vals (items.size - 0) 0 _ rfl (Nat.zero_le _) ⟨⟨_, Heap.get?_push_size _ rfl, rfl, rfl⟩, il.push _⟩ ⟨0, Nat.le_refl 0, setR_new_at (Heap.get?_push_of_some _ at0)⟩ ?_
      intro s' c moved small told
      obtain ⟨h', g2, d2, tk, os⟩ := s'
      obtain rfl : g2 = s.gens := moved.gens
      obtain rfl : d2 = s.drawn := moved.drawn
      obtain rfl : os = s.os := moved.os
      refine (show wpAny _ _ _ _ _ _ from wpAny_pure (show wpAny _ _ (ret Value.none) _ _ _ from wpAny_pure ⟨rfl, h', tk, c, rfl, told, len ▸ small, fun b o e => ?_⟩))
      have ltb := Heap.lt_size e
      refine moved.heap b o (fun z => ?_) (Heap.get?_push_of_some _ (old b o e))
      simp only [List.mem_cons, List.not_mem_nil, or_false] at z
      rcases z with z | z
      · exact absurd z (Nat.ne_of_lt ltb)
      · exact absurd (z.trans sz1) (Nat.ne_of_lt (Nat.lt_succ_of_lt ltb))
    · match r2, hr2 with
      | .error e, hr2 => exact hr2
      | .ok (.ret _), hr2 =>
        obtain ⟨rfl, h', tk, c, rfl, told, small, kp⟩ := hr2
        repeat any_goals first | assumption | wp_step
        exact k _ _ _ told small kp
end
section
variable {X : Cx}
def rSetL (K : PySem.W.Frag) (w : World) : List V → Hp → VK → Prop := fun xs H Q => ∃ (l : Addr) (ns : List Int), xs = [.ref l] ∧ SqL K H l (ns.map V.int) ∧ ns.length < 1000 ∧ ∀ a c, H a = none → c ≤ ns.length → Q (.ref a) (upd H a (SetO w a (fun j => decide (j ∈ ns)) c))
theorem cr_setL (calm : X.calm = true) : CallR X (.type "set") (rSetL X.K X.w) := by
  intro pins s σ H xs us Q I r h
  obtain ⟨l, ns, rfl, hs, hl, q⟩ := h
  obtain ⟨its, rv, pl, hz⟩ := I.list hs
  rw [Vals.ref1 r]
  refine set_of_list ns (I.ok.hd calm) pl.isList (by simpa using ints_of_vals rv) (by unfold scanBound; omega) fun h' tk c R small kp => ?_
  have n := I.hok.fresh (Nat.le_refl s.heap.objs.size)
  exact ⟨.ref s.heap.objs.size, _, I.laid (t' := tk) kp (Nat.le_refl _) (setO_new R), rfl, q _ c n small⟩
end
end My
namespace My
open PySem PySem.Spec PyProof.Rows L2
/-! ### list(d.values()); d != {} -/
section
variable {X : Cx} {o : Expr} {p pos apos mpos : Pos} {td : TE}
def tListVals (td : TE) : TE := fun σ H Q => td σ H fun x H1 => ∃ a kvs, x = V.ref a ∧ H1 a = some (.dK kvs) ∧ ∀ q, H1 q = none → Q (.ref q) (upd H1 q (.lst (kvs.map (·.2))))
theorem kv_at {κ : Type} {kvs : List (κ × V)} {vs : List (κ × Value)} (r : KV kvs vs) : ∀ {i : Nat} {k : κ} {v : Value}, vs[i]? = some (k, v) → ∃ x, kvs[i]? = some (k, x) ∧ RelV x v := by
  unfold KV at r
  induction r with
  | nil =>
    intro i k v e
    simp at e
  | cons h t ih =>
    intro i k v e
    cases i with
    | zero =>
      simp only [List.getElem?_cons_zero, Option.some.injEq] at e ⊢
      subst e
      exact ⟨_, Prod.ext h.1 rfl, h.2⟩
    | succ i =>
      simp only [List.getElem?_cons_succ] at e ⊢
      exact ih e
theorem pe_listVals (hc : X.calm = true) (hg : Gl X "list") (hm : X.mg "list" = none) (hd : PE X o td) (hbase : attributeBase o "values" X.env (eval o X.env) = eval o X.env := by rfl) (hline : (apos.endLine == mpos.line) = true := by rfl)
    (hse : starEach [Expr.Call (.Attribute o "values" apos) [] [] mpos] X.env = [(false, eval (Expr.Call (.Attribute o "values" apos) [] [] mpos) X.env)] := by rfl) :
    PE X (.Call (.Name "list" p) [.Call (.Attribute o "values" apos) [] [] mpos] [] pos) (tListVals td) := by
  refine ⟨fun pins s σ H Q I h => ?_⟩
  refine wpAny_Call_Name_kw (ld_blt I hg hm (u := .type "list") (by first | rfl | decide +kernel) ?_ (by first | decide +kernel | decide) (by first | decide +kernel | decide))
  rw [hse]
  refine PySem.callWith_type1 (wpAny_Call_method0_late hbase hline (thn (hd.run pins s σ H _ I h) fun v s1 ⟨x, H1, I1, r1, a, kvs, ex, ha, q⟩ => ?_))
  subst ex
  obtain rfl : v = Value.ref a := r1
  obtain ⟨z, hsys, vs, rel, dof⟩ := dk_of I1.hok ha
  obtain ⟨ep, dat⟩ := dof.dictAt
  have dat' := dat
  obtain ⟨ob, es, ho, ex, hdat, hko, hpr, hnd⟩ := dat'
  refine ⟨"dict", "dict.values", F.plainAttrs_dict, F.slot_dict_values, F.type_dict_values, ⟨ob, ho, ex.1⟩, fun b e => ?_, Calls.callWith_builtin rfl (PySem.evalArgs_none ?_)⟩
  · cases e
    exact ⟨ob, ho, ex.2.1⟩
  refine call_meetsIn F.slot_dict_values ⟨ob, ho, ex.1⟩ F.entry_dict_values (F.args_dict_values_1 _) (meets_dict_values (mixKind X.prog X.w) a hsys) ⟨⟨vs, dof⟩, ?_⟩
  have k1 : ∀ b u, s1.heap.get? b = some u → (s1.heap.push { cls := .type "dict_values", data := .fields #[.ref a] }).get? b = some u := fun b u e => Heap.get?_push_of_some _ e
  have dat1 : (s1.heap.push { cls := .type "dict_values", data := .fields #[.ref a] }).DictAt (mixKind X.prog X.w) a vs ep := dat.keep k1
  have hl : kvs.length = vs.length := KV.length rel
  have hsz : (s1.heap.push { cls := .type "dict_values", data := .fields #[.ref a] }).objs.size = s1.heap.objs.size + 1 := Heap.size_push _ _
  refine PySem.W.kdl_call (PySem.W.kdl_values (knd := mixKind X.prog X.w) (kvs := vs) (ep := ep) (r := s1.heap.objs.size)) (I.ok.hd hc) ⟨⟨_, Heap.get?_push_size _ rfl, rfl, rfl⟩, dat1⟩ (by rw [← hl]; exact z) fun h' tk acc' c' hkeep hS hacc => ?_
  have hle : s1.heap.objs.size ≤ (s1.heap.push { cls := .type "dict_values", data := .fields #[.ref a] }).objs.size := by rw [hsz]; exact Nat.le_succ _
  refine ⟨.ref _, upd H1 _ (.lst (kvs.map (·.2))), I1.laid (fun b u e => hkeep b u (k1 b u e)) hle (show ObjOk X.prog X.w _ _ _ (.lst (kvs.map (·.2))) from ⟨?_, acc'.toList, c', ?_, ?_⟩), rfl, q _ (I1.hok.fresh hle)⟩
  · rw [List.length_map]; exact z
  · have el : acc'.toList.length = acc'.size := by simp
    refine vals_of_at (by rw [List.length_map, el, hacc.1, hl]) fun j x w h1 h2 => ?_
    obtain ⟨k, hky⟩ := hacc.2 j w (by rw [← Array.getElem?_toList]; exact h2)
    obtain ⟨x2, h3, h4⟩ := kv_at rel hky
    rw [List.getElem?_map, h3] at h1
    cases h1
    exact h4
  · rw [Array.toArray_toList]; exact hS
theorem g_listVals {σ : L2.St} {H : Hp} {Q : VK} (q : td σ H fun x H1 => ∃ a kvs, x = V.ref a ∧ H1 a = some (.dK kvs) ∧ ∀ q, H1 q = none → Q (.ref q) (upd H1 q (.lst (kvs.map (·.2))))) : tListVals td σ H Q := q
/-- a dict and the empty one -/
def rNeE : R2 := fun x y H Q => ∃ a b ks, x = .ref a ∧ y = .ref b ∧ H a = some (.dK ks) ∧ H b = some (.dK []) ∧ Q (.bl (decide (ks ≠ []))) H
theorem op_neE (hu : X.A.units < cLine) : OpR X (compareOp .NotEq) rNeE := by
  intro pins s σ H x y v u Q I rx ry h
  obtain ⟨a, b, ks, rfl, rfl, ea, eb, q⟩ := h
  obtain rfl : v = Value.ref a := rx
  obtain rfl : u = Value.ref b := ry
  obtain ⟨_, ya, va, ra, da⟩ := (show ObjOk X.prog X.w H s.heap a (.dK ks) from I.hok a _ ea)
  obtain ⟨_, yb, vb, rb, db⟩ := (show ObjOk X.prog X.w H s.heap b (.dK []) from I.hok b _ eb)
  have hb : vb = [] := by cases rb; rfl
  subst hb
  have hl : ks.length = va.length := KV.length ra
  refine PySem.W.keq_ne (knd := mixKind X.prog X.w) (r := true) ya yb da db hu (fun e => ?_) (fin_bl I q ?_)
  · have : va = [] := List.eq_nil_of_length_eq_zero e
    subst this
    exact .nil
  · cases ks with
    | nil => rw [List.length_nil] at hl; rw [← hl]; rfl
    | cons k r => rw [List.length_cons] at hl; rw [← hl]; simp
end
end My
namespace My
open PySem PySem.Spec PyProof.Rows L2
/-! ### promises: wheels -/
abbrev Wh (n : Int) : Prop := 2 ≤ n ∧ n ≤ 1000000000000
abbrev Se (n i : Int) : Prop := 0 ≤ i ∧ i < n
def sp_is_wheel : Sp := fun vs H Q _ => ∃ n : Int, vs = [.int n] ∧ Q (.bl (decide (Wh n))) H
def sp_need_wheel (ec : Ec) : Sp := fun vs H Q E => ∃ n : Int, vs = [.int n] ∧ (Wh n → Q .non H) ∧ (¬ Wh n → E (.ref ec.BadWheel) none H)
def sp_need_seen (ec : Ec) : Sp := fun vs H Q E => ∃ n i : Int, vs = [.int n, .int i] ∧ (Se n i → Q .non H) ∧ (¬ Se n i → E (.ref ec.BadSeen) none H)
def sp_since_of : Sp := fun vs H Q _ => ∃ n i j : Int, vs = [.int n, .int i, .int j] ∧ 0 < n ∧ Q (.int ((j - i) % n)) H
end My
namespace My
open PySem PySem.Spec PyProof.Rows L2
/-! ### promises: drawing -/
/-- how many there are to draw from -/
abbrev Mn (n : Int) : Prop := 0 < n ∧ n < 2 ^ 150
def sp_drawn (K : PySem.W.Frag) : Sp := fun vs H Q _ => ∃ (a s : Addr) (n : Int), vs = [.ref a, .int n] ∧ Dr K a s H ∧ Mn n ∧ ∀ r H', 0 ≤ r → r < n → Go K a s H H' → Q (.int r) H'
def sp_start (K : PySem.W.Frag) : Sp := fun vs H Q _ => ∃ (s : Addr) (ns : List Int), vs = [.ref s] ∧ SqL K H s (ns.map V.int) ∧ ns.length ≤ 63 ∧ ∀ a H', H a = none → Same H H' → Dr K a s H' → Q (.ref a) H'
end My
namespace My
open PySem PySem.Spec PyProof.Rows L2
def sp_wheel (K : PySem.W.Frag) : Sp := fun vs H Q _ => ∃ (a s : Addr), vs = [.ref a] ∧ Dr K a s H ∧ ∀ r H', Wh r → Go K a s H H' → Q (.int r) H'
/-- one of a list of ints -/
theorem one_int {zs : List Int} {v : V} (h : v ∈ zs.map V.int) : ∃ z, v = .int z ∧ z ∈ zs := by
  obtain ⟨z, h1, h2⟩ := List.mem_map.mp h
  exact ⟨z, h2.symm, h1⟩
end My
namespace My
open PySem PySem.Spec PyProof.Rows L2
/-! ### rules, in plain Lean -/
inductive Rule where
  | up (l : Int) | near | pair (o : Int) | about (f : Int)
def RuleOk (n : Int) : Rule → Prop
  | .up l => 0 ≤ l ∧ l ≤ 1000000000000
  | .near => True
  | .pair o => Wh o
  | .about f => 0 ≤ 2 * f ∧ 2 * f < n
def ruleV : Rule → List V
  | .up l => [.str "up", .int l]
  | .near => [.str "near"]
  | .pair o => [.str "pair", .int o]
  | .about f => [.str "about", .int f]
def lcmI (n o : Int) : Int := ((Nat.lcm n.toNat o.toNat : Nat) : Int)
def gcdI (n o : Int) : Int := ((Nat.gcd n.toNat o.toNat : Nat) : Int)
def loR (n : Int) : Rule → Int
  | .up l => l
  | .near => 0 - (n - 1) / 2
  | .pair _ => 0
  | .about f => 0 - f
def hiR (n : Int) : Rule → Int
  | .up l => l + n - 1
  | .near => n / 2
  | .pair o => lcmI n o - 1
  | .about f => f
def shR (r : Rule) (a : Int) : Int := match r with
  | .about _ => a
  | _ => 0
def sec (r : Rule) (t : Int) : Int := match r with
  | .pair o => t % o
  | _ => 0
/-- what the wheels show of a time: the second one of a pair alone -/
def shownR (n : Int) (r : Rule) (t : Int) : Int × Int := (t % n, sec r t)
def SeenR (n : Int) (r : Rule) (x : Int × Int) : Prop := Se n x.1 ∧ match r with
  | .pair o => Se o x.2
  | _ => x.2 = 0
/-- a number with the rests -/
def Cg (n : Int) (r : Rule) (x y : Int × Int) (g : Int) : Prop := n ∣ g - (y.1 - x.1) ∧ match r with
  | .pair o => o ∣ g - (y.2 - x.2)
  | _ => True
def Gp (n : Int) (r : Rule) (x y : Int × Int) (a g : Int) : Prop := loR n r + shR r a ≤ g ∧ g ≤ hiR n r + shR r a ∧ Cg n r x y g
theorem gcdI_pos {n o : Int} (h : 0 < n) : 0 < gcdI n o := by
  unfold gcdI
  have : 0 < Nat.gcd n.toNat o.toNat := Nat.gcd_pos_of_pos_left _ (by omega)
  omega
theorem gcdI_dvd {n o : Int} (hn : 0 < n) (ho : 0 < o) : gcdI n o ∣ n ∧ gcdI n o ∣ o := by
  unfold gcdI
  constructor
  · have h := Int.natCast_dvd_natCast.mpr (Nat.gcd_dvd_left n.toNat o.toNat)
    rwa [show ((n.toNat : Nat) : Int) = n by omega] at h
  · have h := Int.natCast_dvd_natCast.mpr (Nat.gcd_dvd_right n.toNat o.toNat)
    rwa [show ((o.toNat : Nat) : Int) = o by omega] at h
theorem lcmI_eq {n o : Int} (hn : 0 < n) (ho : 0 < o) : lcmI n o = n * (o / gcdI n o) ∧ lcmI n o = n / gcdI n o * o ∧ lcmI n o = n * o / gcdI n o := by
  obtain ⟨N, rfl⟩ : ∃ N : Nat, n = N := ⟨n.toNat, by omega⟩
  obtain ⟨O, rfl⟩ : ∃ O : Nat, o = O := ⟨o.toNat, by omega⟩
  unfold lcmI gcdI
  rw [Int.toNat_natCast, Int.toNat_natCast]
  have hg : 0 < Nat.gcd N O := Nat.gcd_pos_of_pos_left _ (by omega)
  have e : Nat.lcm N O = N * O / Nat.gcd N O := rfl
  have e1 : N * O / Nat.gcd N O = N * (O / Nat.gcd N O) := Nat.mul_div_assoc _ (Nat.gcd_dvd_right N O)
  have e2 : N * O / Nat.gcd N O = N / Nat.gcd N O * O := by
    rw [Nat.mul_comm, Nat.mul_div_assoc _ (Nat.gcd_dvd_left N O), Nat.mul_comm]
  refine ⟨?_, ?_, ?_⟩
  · rw [← Int.natCast_ediv, ← Int.natCast_mul, e, e1]
  · rw [← Int.natCast_ediv, ← Int.natCast_mul, e, e2]
  · rw [← Int.natCast_mul, ← Int.natCast_ediv, e]
theorem lcmI_pos {n o : Int} (hn : 0 < n) (ho : 0 < o) : 0 < lcmI n o := by
  unfold lcmI
  have : 0 < Nat.lcm n.toNat o.toNat := Nat.lcm_pos (by omega) (by omega)
  omega
theorem lcmI_dvd {n o d : Int} (hn : 0 < n) (ho : 0 < o) (h1 : n ∣ d) (h2 : o ∣ d) : lcmI n o ∣ d := by
  have a1 := Int.natAbs_dvd_natAbs.mpr h1
  have a2 := Int.natAbs_dvd_natAbs.mpr h2
  rw [← Int.natAbs_dvd_natAbs]
  unfold lcmI
  rw [Int.natAbs_natCast]
  refine Nat.lcm_dvd ?_ ?_
  · rwa [show n.natAbs = n.toNat by omega] at a1
  · rwa [show o.natAbs = o.toNat by omega] at a2
theorem lcmI_le {n o : Int} (hn : 0 < n) (ho : 0 < o) : lcmI n o ≤ n * o := by
  rw [(lcmI_eq hn ho).1]
  have h1 : o / gcdI n o ≤ o := Int.ediv_le_self _ (by omega)
  exact Int.mul_le_mul_of_nonneg_left h1 (by omega)
/-- near nought and divided by m: nought -/
theorem zero_of {m d : Int} (h : m ∣ d) (h1 : -m < d) (h2 : d < m) : d = 0 := by
  obtain ⟨k, rfl⟩ := h
  by_cases z : k = 0
  · rw [z]; omega
  · exfalso
    have hm : 0 < m := by omega
    rcases Int.lt_or_gt_of_ne z with q | q
    · have : m * k ≤ m * (-1) := Int.mul_le_mul_of_nonneg_left (by omega) (by omega)
      omega
    · have : m * 1 ≤ m * k := Int.mul_le_mul_of_nonneg_left (by omega) (by omega)
      omega
theorem Gp.uniq {n : Int} {r : Rule} {x y : Int × Int} {a g g' : Int} (hw : Wh n) (hr : RuleOk n r) (h : Gp n r x y a g) (h' : Gp n r x y a g') : g = g' := by
  obtain ⟨h1, h2, h3, h4⟩ := h
  obtain ⟨q1, q2, q3, q4⟩ := h'
  have hn : 0 < n := by have := hw.1; omega
  have d1 : n ∣ g - g' := by
    have := Int.dvd_sub h3 q3
    rwa [show g - (y.1 - x.1) - (g' - (y.1 - x.1)) = g - g' by omega] at this
  have key : g - g' = 0 := by
    cases r with
    | up l => exact zero_of d1 (by simp only [loR, hiR, shR] at *; omega) (by simp only [loR, hiR, shR] at *; omega)
    | near => exact zero_of d1 (by simp only [loR, hiR, shR] at *; omega) (by simp only [loR, hiR, shR] at *; omega)
    | about f =>
      have := hr.2
      exact zero_of d1 (by simp only [loR, hiR, shR] at *; omega) (by simp only [loR, hiR, shR] at *; omega)
    | pair o =>
      have ho : 0 < o := by have := hr.1; omega
      have d2 : o ∣ g - g' := by
        have := Int.dvd_sub h4 q4
        rwa [show g - (y.2 - x.2) - (g' - (y.2 - x.2)) = g - g' by omega] at this
      exact zero_of (lcmI_dvd hn ho d1 d2) (by simp only [loR, hiR, shR] at *; omega) (by simp only [loR, hiR, shR] at *; omega)
  omega
theorem dvd_rest {n t t' : Int} : n ∣ (t' - t) - (t' % n - t % n) := by
  have h1 : n ∣ t' - t' % n := Int.dvd_self_sub_emod
  have h2 : n ∣ t - t % n := Int.dvd_self_sub_emod
  have := Int.dvd_sub h1 h2
  rwa [show t' - t' % n - (t - t % n) = (t' - t) - (t' % n - t % n) by omega] at this
theorem Cg.true {n : Int} {r : Rule} {t t' : Int} : Cg n r (shownR n r t) (shownR n r t') (t' - t) := by
  refine ⟨dvd_rest, ?_⟩
  cases r with
  | pair o => exact dvd_rest
  | _ => trivial
/-- the number with the rest from lo on -/
theorem rest_from {n lo e : Int} (hn : 0 < n) : lo ≤ lo + (e - lo) % n ∧ lo + (e - lo) % n ≤ lo + n - 1 ∧ n ∣ lo + (e - lo) % n - e := by
  have h1 := Int.emod_nonneg (e - lo) (show n ≠ 0 by omega)
  have h2 := Int.emod_lt_of_pos (e - lo) hn
  refine ⟨by omega, by omega, ?_⟩
  have h3 : n ∣ (e - lo) - (e - lo) % n := Int.dvd_self_sub_emod
  have := Int.dvd_neg.mpr h3
  rwa [show -((e - lo) - (e - lo) % n) = lo + (e - lo) % n - e by omega] at this
/-- the pair's number -/
theorem pair_core {n o rest more c inv : Int} (hn : 0 < n) (ho : 0 < o) (h0 : 0 ≤ rest) (h1 : rest < n) (hc : c = gcdI n o) (hd : c ∣ more - rest) (hs : 1 < o / c) (hi : o / c ∣ n / c * inv - 1) :
    ∀ t, t = (more - rest) / c * inv % (o / c) → 0 ≤ rest + n * t ∧ rest + n * t ≤ lcmI n o - 1 ∧ n ∣ rest + n * t - rest ∧ o ∣ rest + n * t - more := by
  intro t ht
  have hs0 : 0 < o / c := by omega
  have t0 : 0 ≤ t := by rw [ht]; exact Int.emod_nonneg _ (by omega)
  have t1 : t ≤ o / c - 1 := by have := Int.emod_lt_of_pos ((more - rest) / c * inv) hs0; omega
  obtain ⟨cn, co⟩ := gcdI_dvd hn ho
  rw [← hc] at cn co
  have hcp : 0 < c := by rw [hc]; exact gcdI_pos hn
  have en : n = c * (n / c) := (Int.mul_ediv_cancel' cn).symm
  have eo : o = c * (o / c) := (Int.mul_ediv_cancel' co).symm
  have ed : more - rest = c * ((more - rest) / c) := (Int.mul_ediv_cancel' hd).symm
  have nt : n * t ≤ n * (o / c - 1) := Int.mul_le_mul_of_nonneg_left t1 (by omega)
  have nt0 : 0 ≤ n * t := Int.mul_nonneg (by omega) t0
  have el := (lcmI_eq hn ho).1
  rw [← hc] at el
  have e3 : n * (o / c - 1) = n * (o / c) - n := by rw [Int.mul_sub, Int.mul_one]
  refine ⟨by omega, by omega, ⟨t, by omega⟩, ?_⟩
  have q1 : o / c ∣ (more - rest) / c * inv - t := by rw [ht]; exact Int.dvd_self_sub_emod
  -- n/c * t - far/c is divided by o/c
  have q2 : o / c ∣ n / c * t - (more - rest) / c := by
    have a1 : o / c ∣ (more - rest) / c * (n / c * inv - 1) := Int.dvd_mul_of_dvd_right hi
    have a2 : o / c ∣ n / c * ((more - rest) / c * inv - t) := Int.dvd_mul_of_dvd_right q1
    have a3 := Int.dvd_sub a1 a2
    have e : (more - rest) / c * (n / c * inv - 1) - n / c * ((more - rest) / c * inv - t) = n / c * t - (more - rest) / c := by
      rw [Int.mul_sub, Int.mul_sub, Int.mul_one, ← Int.mul_assoc, ← Int.mul_assoc, Int.mul_comm ((more - rest) / c) (n / c)]
      omega
    rwa [e] at a3
  obtain ⟨z, hz⟩ := q2
  refine ⟨z, ?_⟩
  have e4 : rest + n * t - more = c * (n / c * t - (more - rest) / c) := by
    rw [Int.mul_sub, ← Int.mul_assoc, ← en, ← ed]
    omega
  rw [e4, hz, ← Int.mul_assoc, ← eo]
theorem pair_one {n o rest more : Int} (hn : 0 < n) (ho : 0 < o) (h0 : 0 ≤ rest) (h1 : rest < n) (hd : gcdI n o ∣ more - rest) (hs : o / gcdI n o ≤ 1) : 0 ≤ rest ∧ rest ≤ lcmI n o - 1 ∧ n ∣ rest - rest ∧ o ∣ rest - more := by
  obtain ⟨cn, co⟩ := gcdI_dvd hn ho
  have hcp : 0 < gcdI n o := gcdI_pos hn
  have eo : o = gcdI n o * (o / gcdI n o) := (Int.mul_ediv_cancel' co).symm
  have hq : o / gcdI n o = 1 := by
    have : 0 < o / gcdI n o := by
      rcases Int.lt_or_le 0 (o / gcdI n o) with q | q
      · exact q
      · have : gcdI n o * (o / gcdI n o) ≤ 0 := Int.mul_nonpos_of_nonneg_of_nonpos (by omega) q
        omega
    omega
  have ee : o = gcdI n o := by rw [hq] at eo; omega
  have el := (lcmI_eq hn ho).1
  rw [hq] at el
  refine ⟨h0, by omega, ⟨0, by omega⟩, ?_⟩
  rw [ee]
  have := Int.dvd_neg.mpr hd
  rwa [show -(more - rest) = rest - more by omega] at this
/-- no number has both rests -/
theorem pair_none {n o rest more g : Int} (hn : 0 < n) (ho : 0 < o) (h1 : n ∣ g - rest) (h2 : o ∣ g - more) : gcdI n o ∣ more - rest := by
  obtain ⟨cn, co⟩ := gcdI_dvd hn ho
  have a := Int.dvd_trans cn h1
  have b := Int.dvd_trans co h2
  have := Int.dvd_sub a b
  rwa [show g - rest - (g - more) = more - rest by omega] at this
end My
namespace My
open PySem PySem.Spec PyProof.Rows L2
/-! ### promises: rules -/
/-- what is handed in as a rule -/
inductive Raw where
  | nil | one (s : Str) | two (s : Str) (a : Int) | three (s : Str) (a b : Int)
  deriving DecidableEq
def rawV : Raw → List V
  | .nil => []
  | .one s => [.str s]
  | .two s a => [.str s, .int a]
  | .three s a b => [.str s, .int a, .int b]
def RawS : Raw → Prop
  | .nil => True
  | .one s => PyData.strOk s = true
  | .two s _ => PyData.strOk s = true
  | .three s _ _ => PyData.strOk s = true
def RawOk (n : Int) : Raw → Prop
  | .one s => s = "near"
  | .two s a => (s = "up" ∧ 0 ≤ a ∧ a ≤ 1000000000000) ∨ (s = "pair" ∧ Wh a) ∨ (s = "about" ∧ 0 ≤ 2 * a ∧ 2 * a < n)
  | _ => False
instance {n : Int} {r : Raw} : Decidable (RawOk n r) := match r with
  | .nil => inferInstanceAs (Decidable False)
  | .one s => inferInstanceAs (Decidable (s = "near"))
  | .two s a => inferInstanceAs (Decidable ((s = "up" ∧ 0 ≤ a ∧ a ≤ 1000000000000) ∨ (s = "pair" ∧ Wh a) ∨ (s = "about" ∧ 0 ≤ 2 * a ∧ 2 * a < n)))
  | .three _ _ _ => inferInstanceAs (Decidable False)
def toRaw : Rule → Raw
  | .up l => .two "up" l
  | .near => .one "near"
  | .pair o => .two "pair" o
  | .about f => .two "about" f
theorem rawV_to (r : Rule) : rawV (toRaw r) = ruleV r := by cases r <;> rfl
theorem rawS_to (r : Rule) : RawS (toRaw r) := by cases r <;> (show PyData.strOk _ = true; decide +kernel)
theorem rawOk_to {n : Int} {r : Rule} : RawOk n (toRaw r) ↔ RuleOk n r := by
  cases r with
  | up l => exact ⟨fun h => by rcases h with h | h | h <;> first | exact h.2 | exact absurd h.1 (by decide), fun h => .inl ⟨rfl, h⟩⟩
  | near => exact ⟨fun _ => trivial, fun _ => rfl⟩
  | pair o => exact ⟨fun h => by rcases h with h | h | h <;> first | exact h.2 | exact absurd h.1 (by decide), fun h => .inr (.inl ⟨rfl, h⟩)⟩
  | about f => exact ⟨fun h => by rcases h with h | h | h <;> first | exact h.2 | exact absurd h.1 (by decide), fun h => .inr (.inr ⟨rfl, h⟩)⟩
theorem rule_of {n : Int} {w : Raw} (h : RawOk n w) : ∃ r, w = toRaw r ∧ RuleOk n r := by
  cases w with
  | nil => exact h.elim
  | three _ _ _ => exact h.elim
  | one s =>
    have e : s = "near" := h
    exact ⟨.near, by rw [e]; rfl, trivial⟩
  | two s a =>
    rcases h with ⟨e, h⟩ | ⟨e, h⟩ | ⟨e, h⟩
    · exact ⟨.up a, by rw [e]; rfl, h⟩
    · exact ⟨.pair a, by rw [e]; rfl, h⟩
    · exact ⟨.about a, by rw [e]; rfl, h⟩
theorem toRaw_inj {r r' : Rule} (h : toRaw r = toRaw r') : r = r' := by
  cases r <;> cases r' <;> first
    | rfl
    | (injection h with h1 h2; subst h2; rfl)
    | (injection h with h1 h2; exact absurd h1 (by decide))
    | (injection h)
def sp_is_rule : Sp := fun vs H Q _ => ∃ (n : Int) (p : Addr) (w : Raw), vs = [.int n, .ref p] ∧ H p = some (.tup (rawV w)) ∧ RawS w ∧ ∀ H', Same H H' → Q (.bl (decide (RawOk n w))) H'
def sp_need_rule (ec : Ec) : Sp := fun vs H Q E => ∃ (n : Int) (p : Addr) (w : Raw), vs = [.int n, .ref p] ∧ H p = some (.tup (rawV w)) ∧ RawS w ∧ (Wh n → RawOk n w → ∀ H', Same H H' → Q .non H') ∧
  (¬ Wh n → E (.ref ec.BadWheel) none H) ∧ (Wh n → ¬ RawOk n w → ∀ H', Same H H' → E (.ref ec.BadRule) none H')
def sp_divisor : Sp := fun vs H Q _ => ∃ n o : Int, vs = [.int n, .int o] ∧ 0 < n ∧ 0 < o ∧ Q (.int (gcdI n o)) H
/-- what is shown: a number, for a pair a tuple of both -/
def SeenAt (H : Hp) (r : Rule) (v : V) (x : Int × Int) : Prop := match r with
  | .pair _ => ∃ q, v = .ref q ∧ H q = some (.tup [.int x.1, .int x.2])
  | _ => v = .int x.1
theorem SeenAt.same {H H' : Hp} {r : Rule} {v : V} {x : Int × Int} (e : Same H H') (h : SeenAt H r v x) : SeenAt H' r v x := by
  cases r with
  | pair o =>
    obtain ⟨q, h1, h2⟩ := h
    exact ⟨q, h1, e _ _ h2⟩
  | _ => exact h
def SeenOk (n : Int) (r : Rule) (x : Int × Int) : Prop := Se n x.1 ∧ match r with
  | .pair o => Se o x.2
  | _ => True
theorem SeenOk.true {n : Int} {r : Rule} {t : Int} (hw : Wh n) (hr : RuleOk n r) : SeenOk n r (shownR n r t) := by
  have hn : 0 < n := by have := hw.1; omega
  refine ⟨⟨Int.emod_nonneg _ (by omega), Int.emod_lt_of_pos _ hn⟩, ?_⟩
  cases r with
  | pair o =>
    have ho : 0 < o := by have := hr.1; omega
    exact ⟨Int.emod_nonneg _ (by omega), Int.emod_lt_of_pos _ ho⟩
  | _ => trivial
def sp_shown_of : Sp := fun vs H Q _ => ∃ (n : Int) (p : Addr) (r : Rule) (t : Int), vs = [.int n, .ref p, .int t] ∧ H p = some (.tup (ruleV r)) ∧ Wh n ∧ RuleOk n r ∧ ∀ v H', Same H H' → SeenAt H' r v (shownR n r t) → Q v H'
def sp_shown (ec : Ec) : Sp := fun vs H Q E => ∃ (n : Int) (p : Addr) (w : Raw) (t : Int), vs = [.int n, .ref p, .int t] ∧ H p = some (.tup (rawV w)) ∧ RawS w ∧
  (∀ r, w = toRaw r → Wh n → RuleOk n r → ∀ v H', Same H H' → SeenAt H' r v (shownR n r t) → Q v H') ∧ (¬ Wh n → E (.ref ec.BadWheel) none H) ∧ (Wh n → ¬ RawOk n w → ∀ H', Same H H' → E (.ref ec.BadRule) none H')
def sp_need_shown (ec : Ec) : Sp := fun vs H Q E => ∃ (n : Int) (p : Addr) (r : Rule) (v : V) (x : Int × Int), vs = [.int n, .ref p, v] ∧ H p = some (.tup (ruleV r)) ∧ SeenAt H r v x ∧ (SeenOk n r x → Q .non H) ∧ (¬ SeenOk n r x → E (.ref ec.BadSeen) none H)
def sp_inverse : Sp := fun vs H Q _ => ∃ k m : Int, vs = [.int k, .int m] ∧ 1 < m ∧ m ≤ 1000000000000 ∧ 0 < k ∧ gcdI k m = 1 ∧ ∀ v H', 0 ≤ v → v < m → m ∣ k * v - 1 → Same H H' → Q (.int v) H'
def sp_paired (ec : Ec) : Sp := fun vs H Q E => ∃ n o x y : Int, vs = [.int n, .int o, .int x, .int y] ∧ Wh n ∧ Wh o ∧ Se n x ∧ Se o y ∧
  (∀ g H', 0 ≤ g → g ≤ lcmI n o - 1 → n ∣ g - x → o ∣ g - y → Same H H' → Q (.int g) H') ∧ ((¬ gcdI n o ∣ y - x) → E (.ref ec.NoGap) none H)
def aboutV (r : Rule) (v : V) (a : Int) : Prop := match r with
  | .about _ => v = .int a
  | _ => True
/-- that no number is so, told by the rests -/
def NoGp (n : Int) (r : Rule) (x y : Int × Int) (a : Int) : Prop := match r with
  | .pair o => ¬ gcdI n o ∣ (y.2 - x.2) - (y.1 - x.1)
  | .about f => 2 * f < (y.1 - x.1 - (a - f)) % n
  | _ => False
theorem NoGp.no {n : Int} {r : Rule} {x y : Int × Int} {a : Int} (hw : Wh n) (hr : RuleOk n r) (h : NoGp n r x y a) : ∀ g, ¬ Gp n r x y a g := by
  have hn : 0 < n := by have := hw.1; omega
  rintro g ⟨h1, h2, h3, h4⟩
  cases r with
  | pair o => exact h (pair_none hn (by have := hr.1; omega) h3 h4)
  | about f =>
    obtain ⟨c1, c2, c3⟩ := rest_from (lo := a - f) (e := y.1 - x.1) hn
    have h : 2 * f < (y.1 - x.1 - (a - f)) % n := h
    have h1 : 0 - f + a ≤ g := h1
    have h2 : g ≤ f + a := h2
    have hr1 : 2 * f < n := hr.2
    have z := zero_of (Int.dvd_sub c3 h3) (by omega) (by omega)
    omega
  | _ => exact h
def sp_gap_of (ec : Ec) : Sp := fun vs H Q E => ∃ (n : Int) (p : Addr) (r : Rule) (v1 v2 v3 : V) (x y : Int × Int) (a : Int), vs = [.int n, .ref p, v1, v2, v3] ∧ H p = some (.tup (ruleV r)) ∧ Wh n ∧ RuleOk n r ∧ SeenAt H r v1 x ∧ SeenAt H r v2 y ∧
  aboutV r v3 a ∧ (∀ g H', Gp n r x y a g → Same H H' → Q (.int g) H') ∧ (NoGp n r x y a → E (.ref ec.NoGap) none H)
def sp_gap (ec : Ec) : Sp := fun vs H Q E => ∃ (n : Int) (p : Addr) (w : Raw) (v1 v2 v3 : V), vs = [.int n, .ref p, v1, v2, v3] ∧ H p = some (.tup (rawV w)) ∧ RawS w ∧ (¬ Wh n → E (.ref ec.BadWheel) none H) ∧ (Wh n → ¬ RawOk n w → ∀ H', Same H H' → E (.ref ec.BadRule) none H') ∧
  (∀ r, w = toRaw r → Wh n → RuleOk n r → ∃ (x y : Int × Int) (a : Int), SeenAt H r v1 x ∧ SeenAt H r v2 y ∧ aboutV r v3 a ∧ (SeenOk n r x → SeenOk n r y → ∀ g H', Gp n r x y a g → Same H H' → Q (.int g) H') ∧
    (SeenOk n r x → SeenOk n r y → NoGp n r x y a → ∀ H', Same H H' → E (.ref ec.NoGap) none H') ∧ (¬ (SeenOk n r x ∧ SeenOk n r y) → ∀ H', Same H H' → E (.ref ec.BadSeen) none H'))
end My
namespace My
open PySem PySem.Spec PyProof.Rows L2
open LamX (Tabs TabS CodeO ExtN TabB)
/-! ### the laws' own telling of an error -/
def namesL : List Str := ["BadWheel", "BadRule", "BadSeen", "BadGaps", "BadSpan", "BadLong", "NoGap", "NoSpan"]
structure KindOf (K : PySem.W.Frag) (ec : Ec) (D : Addr) (j : Nat) : Prop where
  c : ExcC K D
  m : PySem.W.exmOne K (.ref D) (.ref ec.WrapError) = some true
  v : PySem.W.kitOne K (.ref D) (.type "ValueError") = some true
  i0 : PySem.W.kitOne K (.ref D) (.ref ec.BadWheel) = some (decide (0 = j))
  i1 : PySem.W.kitOne K (.ref D) (.ref ec.BadRule) = some (decide (1 = j))
  i2 : PySem.W.kitOne K (.ref D) (.ref ec.BadSeen) = some (decide (2 = j))
  i3 : PySem.W.kitOne K (.ref D) (.ref ec.BadGaps) = some (decide (3 = j))
  i4 : PySem.W.kitOne K (.ref D) (.ref ec.BadSpan) = some (decide (4 = j))
  i5 : PySem.W.kitOne K (.ref D) (.ref ec.BadLong) = some (decide (5 = j))
  i6 : PySem.W.kitOne K (.ref D) (.ref ec.NoGap) = some (decide (6 = j))
  i7 : PySem.W.kitOne K (.ref D) (.ref ec.NoSpan) = some (decide (7 = j))
  lt : j < 8
theorem kit_yes {K : PySem.W.Frag} {t : Value} {C : Addr} (hd : PySem.W.hasDictIn K C = true) (ht : PySem.W.typeIn K (.ref C) = some (.type "type")) (h : PySem.W.subIn K t (.ref C) = some true) : PySem.W.kitOne K t (.ref C) = some true := by
  obtain ⟨cd, hc, _⟩ := PySem.W.any_some hd
  have e2 : ((PySem.W.clsIn K C).isSome && PySem.W.typeIn K (.ref C) == some (.type "type")) = true := by rw [hc, ht] <;> rfl
  show (if (t == .ref C) = true then some true else (if ((PySem.W.clsIn K C).isSome && PySem.W.typeIn K (.ref C) == some (.type "type")) = true then PySem.W.subIn K t (.ref C) else none)) = some true
  by_cases z : (t == .ref C) = true
  · rw [if_pos z]
  · rw [if_neg z, if_pos e2]
    exact h
theorem kit_no {K : PySem.W.Frag} {D C : Addr} (hd : PySem.W.hasDictIn K C = true) (ht : PySem.W.typeIn K (.ref C) = some (.type "type")) (hn : D ≠ C) (h : PySem.W.subIn K (.ref D) (.ref C) = some false) : PySem.W.kitOne K (.ref D) (.ref C) = some false := by
  obtain ⟨cd, hc, _⟩ := PySem.W.any_some hd
  have e2 : ((PySem.W.clsIn K C).isSome && PySem.W.typeIn K (.ref C) == some (.type "type")) = true := by rw [hc, ht] <;> rfl
  show (if ((.ref D : Value) == .ref C) = true then some true else (if ((PySem.W.clsIn K C).isSome && PySem.W.typeIn K (.ref C) == some (.type "type")) = true then PySem.W.subIn K (.ref D) (.ref C) else none)) = some false
  rw [if_neg (fun z => hn (by simpa using z)), if_pos e2]
  exact h
theorem kit_ve {K : PySem.W.Frag} {D : Addr} (h : PySem.W.subIn K (.ref D) (.type "ValueError") = some true) : PySem.W.kitOne K (.ref D) (.type "ValueError") = some true := by
  show (if ((.ref D : Value) == .type "ValueError") = true then some true else (if PySem.W.kitMeta "ValueError" = true then PySem.W.subIn K (.ref D) (.type "ValueError") else none)) = some true
  rw [if_neg (by simp), if_pos (by decide +kernel)]
  exact h
/-- what is told of an exception that a lambda lets out -/
def EKind (K : PySem.W.Frag) (ec : Ec) (Q : VK) : XK := fun cls d H' => ∃ D j, cls = .ref D ∧ d = none ∧ KindOf K ec D j ∧ ∀ H'', Same H' H'' → Q (.str (namesL.getD j "")) H''
def TKind (K : PySem.W.Frag) (ec : Ec) : (XK → Hp → VK → Prop) → Hp → VK → Prop := fun tl H Q => tl (EKind K ec Q) H Q
theorem EKind.mk {K : PySem.W.Frag} {ec : Ec} {Q : VK} {D : Addr} {j : Nat} {H : Hp} (h : KindOf K ec D j) (q : ∀ H'', Same H H'' → Q (.str (namesL.getD j "")) H'') : EKind K ec Q (.ref D) none H := ⟨D, j, rfl, rfl, h, q⟩
/-! ### list.count, flat items -/
def rCountF (K : PySem.W.Frag) : V → List V → Hp → VK → Prop := fun x xs H Q => ∃ (a : Addr) (ys : List V) (y : V), x = V.ref a ∧ xs = [y] ∧ SqL K H a ys ∧ flatV y = true ∧ ys.all flatV = true ∧ Q (.int (ys.countP (fun z => eqV z y) : Nat)) H
theorem count_eqU {y : V} : ∀ {ys : List V} {us : List Value}, Vals ys us → ys.all flatV = true → us.countP (eqU y) = ys.countP fun z => eqV z y
  | _, _, .nil, _ => rfl
  | x :: xs, u :: us, .cons r t, f => by
    rw [List.all_cons, Bool.and_eq_true] at f
    rw [List.countP_cons, List.countP_cons, count_eqU t f.2, eqU_of r f.1]
theorem mt_countF {X : Cx} : MtR X "list.count" (rCountF X.K) := by
  intro pins s σ H x xs v us Q I rx rxs h
  obtain ⟨a, ys, y, rfl, rfl, hs, fy, fys, q⟩ := h
  cases rx
  cases rxs with
  | cons ry rt =>
    rename_i uy ut
    cases rt
    obtain ⟨its, rv, ⟨⟨cls, dd, data, sl⟩, n, ho, hc, hdn, hd⟩, hlen⟩ := I.list hs
    simp only at hc hd
    subst hc hd
    refine call_meets PySem.F.slot_list_count ⟨_, ho, rfl⟩ PySem.F.entry_list_count (PySem.F.args_list_count_2 _ _)
      (SeqAt.list_countAt a its.toArray n dd sl uy (eqU y)) ⟨ho, fun u' hu' => mem_eqAt ry fy rv fys u' (by simpa using hu'), ?_⟩
    refine ⟨.int (ys.countP (fun z => eqV z y) : Nat), H, I.tok _, ⟨s.toks, ?_⟩, q⟩
    show Value.int ((its.toArray.toList.countP (eqU y) : Nat) : Int) s.toks = Value.int ((ys.countP (fun z => eqV z y) : Nat) : Int) s.toks
    rw [show its.toArray.toList = its from rfl, count_eqU rv fys]
theorem g_count {K : PySem.W.Frag} {a : Addr} {ys : List V} {y : V} {H : Hp} {Q : VK} (h : SqL K H a ys) (fy : flatV y = true) (fys : ys.all flatV = true) (q : Q (.int (ys.countP (fun z => eqV z y) : Nat)) H) : rCountF K (.ref a) [y] H Q := ⟨a, ys, y, rfl, rfl, h, fy, fys, q⟩
theorem g_index {K : PySem.W.Frag} {a : Addr} {ys : List V} {y z : V} {j : Nat} {H : Hp} {Q : VK} (h : SqL K H a ys) (fy : flatV y = true) (fys : ys.all flatV = true) (hz : ys[j]? = some z) (he : eqV z y = true)
    (hn : ∀ (m : Nat) (z' : V), m < j → ys[m]? = some z' → eqV z' y = false) (q : Q (.int (j : Nat)) H) : rIndex K (.ref a) [y] H Q := ⟨a, ys, y, j, z, rfl, rfl, h, fy, fys, hz, he, hn, q⟩
theorem g_isE {K : PySem.W.Frag} {D a C : Addr} {b : Bool} {H : Hp} {Q : VK} (h : PySem.W.kitOne K (.ref D) (.ref C) = some b) (q : Q (.bl b) H) : rIsE K D a [.ref a, .ref C] H Q := ⟨.ref C, .ref C, b, rfl, fun _ r => r, h, q⟩
theorem g_isET {K : PySem.W.Frag} {D a : Addr} {t : String} {b : Bool} {H : Hp} {Q : VK} (h : PySem.W.kitOne K (.ref D) (.type t) = some b) (q : Q (.bl b) H) : rIsE K D a [.ref a, .ty t] H Q := ⟨.ty t, .type t, b, rfl, fun _ r => r, h, q⟩
def kindsL (j : Nat) : List V := [.bl (decide (0 = j)), .bl (decide (1 = j)), .bl (decide (2 = j)), .bl (decide (3 = j)), .bl (decide (4 = j)), .bl (decide (5 = j)), .bl (decide (6 = j)), .bl (decide (7 = j))]
theorem kinds_count : ∀ j, j < 8 → (kindsL j).countP (fun z => eqV z (.bl true)) = 1 := by decide
theorem kinds_flat (j : Nat) : (kindsL j).all flatV = true := rfl
theorem kinds_at : ∀ j, j < 8 → (kindsL j)[j]? = some (.bl true) := by
  intro j hj
  have : j = 0 ∨ j = 1 ∨ j = 2 ∨ j = 3 ∨ j = 4 ∨ j = 5 ∨ j = 6 ∨ j = 7 := by omega
  rcases this with rfl | rfl | rfl | rfl | rfl | rfl | rfl | rfl <;> rfl
theorem kinds_no {j : Nat} (hj : j < 8) (m : Nat) (z : V) (hm : m < j) (h : (kindsL j)[m]? = some z) : eqV z (.bl true) = false := by
  have a : j = 0 ∨ j = 1 ∨ j = 2 ∨ j = 3 ∨ j = 4 ∨ j = 5 ∨ j = 6 ∨ j = 7 := by omega
  have b : m = 0 ∨ m = 1 ∨ m = 2 ∨ m = 3 ∨ m = 4 ∨ m = 5 ∨ m = 6 ∨ m = 7 := by omega
  rcases a with rfl | rfl | rfl | rfl | rfl | rfl | rfl | rfl <;> rcases b with rfl | rfl | rfl | rfl | rfl | rfl | rfl | rfl <;> first | omega | (cases h; rfl)
theorem names_at : ∀ j, j < 8 → (namesL.map V.str)[j]? = some (.str (namesL.getD j "")) := by
  intro j hj
  have : j = 0 ∨ j = 1 ∨ j = 2 ∨ j = 3 ∨ j = 4 ∨ j = 5 ∨ j = 6 ∨ j = 7 := by omega
  rcases this with rfl | rfl | rfl | rfl | rfl | rfl | rfl | rfl <;> rfl
/-! ### tables of code objects, kept -/
theorem extN_same {H H' : Hp} (e : Same H H') : ExtN H H' := ExtN.of e
theorem tabs_same {T : List (Addr × Str)} {H H' : Hp} (t : Tabs T H) (e : Same H H') : Tabs T H' := t.ext e
theorem tabs_kp {T : List (Addr × Str)} {H H' : Hp} {a : Addr} (t : Tabs T H) (h1 : ∀ ps, H a ≠ some (.tbl ps)) (h2 : ∀ c q, H a ≠ some (CodeO c q)) (k : Kp a H H') : Tabs T H' := fun p hp => by
  obtain ⟨ps, e1, e2, e3⟩ := t p hp
  refine ⟨ps, k _ _ e1 fun z => h1 ps (by rw [← z]; exact e1), e2, fun pos cv hc => ?_⟩
  obtain ⟨c, z1, z2⟩ := e3 pos cv hc
  exact ⟨c, z1, k _ _ z2 fun z => h2 c p.2 (by rw [← z]; exact z2)⟩
theorem tabs_go {K : PySem.W.Frag} {a s : Addr} {T : List (Addr × Str)} {H H' : Hp} (t : Tabs T H) (d : Dr K a s H) (g : Go K a s H H') : Tabs T H' := by
  obtain ⟨ns, i, m, l, h1, _⟩ := d.ex
  refine tabs_kp t (fun ps z => ?_) (fun c q z => ?_) g.kp
  · rw [h1] at z; cases z
  · rw [h1] at z; unfold CodeO at z; cases z
theorem Dr.ext {K : PySem.W.Frag} {a s : Addr} {H H' : Hp} (d : Dr K a s H) (e : ExtN H H') : Dr K a s H' := by
  obtain ⟨ns, i, m, l, h1, h2, h3, h4⟩ := d.ex
  refine ⟨ns, i, m, l, e _ _ h1 (fun ps z => by cases z), fun o => ?_, h3, h4⟩
  rcases h2 o with (h | ⟨u, h⟩) | h
  · refine .inl (.inl ?_)
    by_cases z : s = a
    · subst z; rw [upd_same] at h ⊢; exact h
    · rw [upd_ne z] at h ⊢; exact e _ _ h (fun ps z => by cases z)
  · refine .inl (.inr ⟨u, ?_⟩)
    by_cases z : s = a
    · subst z; rw [upd_same] at h ⊢; exact h
    · rw [upd_ne z] at h ⊢; exact e _ _ h (fun ps z => by cases z)
  · exact .inr h
theorem extN_tup {H H' : Hp} (e : ExtN H H') {p : Addr} {xs : List V} (h : H p = some (.tup xs)) : H' p = some (.tup xs) := e _ _ h fun _ z => by cases z
theorem extN_lst {H H' : Hp} (e : ExtN H H') {p : Addr} {xs : List V} (h : H p = some (.lst xs)) : H' p = some (.lst xs) := e _ _ h fun _ z => by cases z
theorem extN_ins {H H' : Hp} (e : ExtN H H') {p C dx : Addr} {fs : List (Str × V)} (h : H p = some (.ins C dx fs)) : H' p = some (.ins C dx fs) := e _ _ h fun _ z => by cases z
theorem pss_by {X : Cx} {sts : List Stmt} {tt : TS} (h : ∀ Dd σ H, σ.length = X.N.length → tt Dd σ H → ∃ t, PSs X sts t ∧ t Dd σ H) : PSs X sts tt := ⟨fun pins s σ H D I hh => by
  obtain ⟨t, p, q⟩ := h D σ H I.len hh
  exact p.run pins s σ H D I q⟩
theorem SeenAt.ext {H H' : Hp} {r : Rule} {v : V} {x : Int × Int} (e : LamX.ExtN H H') (h : SeenAt H r v x) : SeenAt H' r v x := by
  cases r with
  | pair o =>
    obtain ⟨p, h1, h2⟩ := h
    exact ⟨p, h1, extN_tup e h2⟩
  | _ => exact h
/-! ### x(lambda: ..), x a known def -/
structure FnL (K : PySem.W.Frag) (mg : Str → Option Value) (x : Str) (st : Stmt) : Prop where
  ex : ∃ (f : Addr) (oc : Value) (od : Option Addr) (kV doc pm : Value) (an : Option Addr) (cdv ct : Value) (osl : Array (Option Value)),
    K.lookup f = some ⟨oc, od, .func (PySem.W.fnOf x x (defArgs st) (defBody st) (defScope st) .none kV doc pm an cdv ct), osl⟩ ∧ PySem.W.codeIn K cdv x = true ∧ PySem.W.keepIn K (.ref f) = true ∧ mg x = some (.ref f)
theorem pe_lamN {X : Cx} {T : List (Addr × Str)} {TT : (XK → Hp → VK → Prop) → Hp → VK → Prop} {x a : Str} {c P : Addr} {k : Nat} {st : Stmt} {Ng : List Str}
    {params : Arguments} {body : Expr} {scope : Scope} {t : XK → TE} {p lpos pos : Pos} (D : FnL X.K X.mg x st) (hg : Gl X x)
    (hb : ∀ (kV doc pm : Value) (an : Option Addr) (cdv ct : Value) (us : List Value), us.length = [a].length → bindArgs (PySem.W.fnOf x x (defArgs st) (defBody st) (defScope st) .none kV doc pm an cdv ct) ⟨us, []⟩ = pure ([a].zip us))
    (Sg : FnScope Ng [a] (defScope st)) (hNg : Ng[0]? = some a) (hva : Vis (defScope st) a)
    (hG : ∀ (g : Addr) (cdv : Value), LamX.GivesTo X Ng x (defScope st) g cdv (defBody st) a (X.env.qual ++ "<lambda>") TT)
    (TB : TabB X.base X.mg c P) (hcode : X.env.code = .ref c) (hmT : (P, X.env.qual ++ "<lambda>") ∈ T) (hu : ∀ p ∈ T, p.1 = P → p.2 = X.env.qual ++ "<lambda>") (hr : Room (k + 2) X.A) (L : LamX.LamS X.env.scope scope) (hdef : defaultsOf params X.env = ([], []))
    (hbind : ∀ (q : Str) (cl : List (Str × Addr)) (pm cv ctv : Value), bindArgs (PySem.W.kla_fn "<lambda>" q params body scope cl pm cv ctv) ⟨[], []⟩ = pure [])
    (hbody : ∀ (A : Around) (outer : List Env) (s : Shared) (H : Hp) (E : XK) (f c' : Addr), Room k (A.deeper (LamX.lamEnv X scope s.heap.objs.size f c')) → PE (LamX.lamCx X A outer s H E scope f c') body (t E))
    (hdb : (x == ("__debug__" : Str)) = false := by decide) (hd : (a == ("__debug__" : Str)) = false := by decide) (hcd : (a == ("__classdict__" : Str)) = false := by decide) :
    PE X (.Call (.Name x p) [.Lambda params body scope lpos] [] pos) (LamX.tLam T TT t) := by
  obtain ⟨g, oc, od, kV, doc, pm, an, cdv, ct, osl, lk, hcg, hk, hm⟩ := D.ex
  exact LamX.pe_lamcall hg hm hk lk hcg (Binds.all fun us hl => hb kV doc pm an cdv ct us hl) Sg hNg hva (hG g cdv) TB hcode hmT hu hr L hdef hbind hbody hdb hd hcd
theorem passLam {X : Cx} {A : Around} {outer : List Env} {s : Shared} {H : Hp} {E : XK} {scope : Scope} {f c' : Addr} : Passes (L2.CX X.prog X.w) (LamX.lamCx X A outer s H E scope f c') E :=
  passes_call (W := fun cls d _ H => E cls d H) (takes_of rfl rfl rfl rfl) (fun _ _ _ _ h => h)
theorem pe_callL {X : Cx} {A : Around} {outer : List Env} {s : Shared} {H : Hp} {E : XK} {scope : Scope} {f c' : Addr} {k : Nat} {x : Str} {ps : List Str} {sp : Sp} {p pos : Pos} {e : Expr} {es : List Expr} {t : TA} (c : Knows X.prog X.w X.K X.mg X.base k x ps sp)
    (hr : Room k (A.deeper (LamX.lamEnv X scope s.heap.objs.size f c'))) (ha : PA (LamX.lamCx X A outer s H E scope f c') (e :: es) t) (hg : Gl (LamX.lamCx X A outer s H E scope f c') x := by rfl) (hdb : (x == ("__debug__" : Str)) = false := by decide)
    (he : starEach (e :: es) (LamX.lamCx X A outer s H E scope f c').env = (false, eval e (LamX.lamCx X A outer s H E scope f c').env) :: starEach es (LamX.lamCx X A outer s H E scope f c').env := by rfl) (hpl : (backTo pos (starEach es (LamX.lamCx X A outer s H E scope f c').env)).any (·.1) = false := by rfl) :
    PE (LamX.lamCx X A outer s H E scope f c') (.Call (.Name x p) (e :: es) [] pos) (tCall sp [] E t) :=
  pe_callN (X := LamX.lamCx X A outer s H E scope f c') c hr (passLam (X := X)) ha hg hdb he hpl
theorem pe_methL {X : Cx} {A : Around} {outer : List Env} {s : Shared} {H : Hp} {E : XK} {scope : Scope} {f c' C : Addr} {k : Nat} {m : Str} {ps : List Str} {dvs : List V} {sp : Sp} {apos pos : Pos} {o e : Expr} {es : List Expr} {ta : TE} {t : TA} {pl : Sem Bool}
    (he : PE (LamX.lamCx X A outer s H E scope f c') o ta) (c : Cls X.K C) (h : KnowsM X.prog X.w X.K X.mg X.base k C m ps dvs sp) (hr : Room k (A.deeper (LamX.lamEnv X scope s.heap.objs.size f c'))) (ha : PA (LamX.lamCx X A outer s H E scope f c') (e :: es) t)
    (hst : starEach (e :: es) (LamX.lamCx X A outer s H E scope f c').env = (false, eval e (LamX.lamCx X A outer s H E scope f c').env) :: starEach es (LamX.lamCx X A outer s H E scope f c').env := by rfl) (hpl : (backTo pos (starEach es (LamX.lamCx X A outer s H E scope f c').env)).any (·.1) = false := by rfl)
    (ht : eval (.Call (.Attribute o m apos) (e :: es) [] pos) (LamX.lamCx X A outer s H E scope f c').env = (do
      let ov ← eval o (LamX.lamCx X A outer s H E scope f c').env
      standAt apos.atName
      let (g, first) ← holding [ov] (getMethod ov m pl)
      callWith pos g first (backTo pos (starEach (e :: es) (LamX.lamCx X A outer s H E scope f c').env)) (backToKw pos (keywordEach [] (LamX.lamCx X A outer s H E scope f c').env))) := by rfl) :
    PE (LamX.lamCx X A outer s H E scope f c') (.Call (.Attribute o m apos) (e :: es) [] pos) (tMeth C m sp dvs E ta t) :=
  pe_methN (X := LamX.lamCx X A outer s H E scope f c') he c h hr (passLam (X := X)) ha hst hpl ht
theorem g_lam {T : List (Addr × Str)} {TT : (XK → Hp → VK → Prop) → Hp → VK → Prop} {t : XK → TE} {σ : L2.St} {H : Hp} {Q : VK} (hT : Tabs T H) (q : ∀ H1, ExtN H H1 → Tabs T H1 → TT (fun E H' Q' => t E σ H' Q') H1 Q) : LamX.tLam T TT t σ H Q := ⟨hT, q⟩
structure FnC (K : PySem.W.Frag) (mg : Str → Option Value) (x : Str) (st : Stmt) (c : Addr) : Prop where
  ex : ∃ (f : Addr) (oc : Value) (od : Option Addr) (kV doc pm : Value) (an : Option Addr) (ct : Value) (osl : Array (Option Value)),
    K.lookup f = some ⟨oc, od, .func (PySem.W.fnOf x x (defArgs st) (defBody st) (defScope st) .none kV doc pm an (.ref c) ct), osl⟩ ∧ PySem.W.codeIn K (.ref c) x = true ∧ PySem.W.keepIn K (.ref f) = true ∧ mg x = some (.ref f)
theorem Knows.mkC {P : Program} {w : World} {K : PySem.W.Frag} {mg : Str → Option Value} {base : Heap} {x : Str} {st : Stmt} {c : Addr} {N ps : List Str} {k : Nat} {sp : Sp} (D : FnC K mg x st c) (S : FnScope N ps (defScope st))
    (hb : ∀ (kV doc pm : Value) (an : Option Addr) (cdv ct : Value) (us : List Value), us.length = ps.length → bindArgs (PySem.W.fnOf x x (defArgs st) (defBody st) (defScope st) .none kV doc pm an cdv ct) ⟨us, []⟩ = pure (ps.zip us))
    (len : ∀ vs H Q E, sp vs H Q E → vs.length = ps.length)
    (hbody : ∀ (f : Addr) (A : Around) (outer : List Env) (s : Shared) (H : Hp) (vs : List V) (Q : VK) (E : XK), Room k (A.deeper (envOfC x (defScope st) s.heap.objs.size f (.ref c))) → sp vs H Q E →
      ∃ t, PSs (cxOf (L2.CX P w) P w K mg base N x (defScope st) f (.ref c) A outer s H E) (defBody st) t ∧ t { nx := fun _ H' => Q .non H', rt := Q } (start N vs) H) : Knows P w K mg base (k + 1) x ps sp := by
  obtain ⟨f, oc, od, kV, doc, pm, an, ct, osl, lk, hcd, hk, hm⟩ := D.ex
  exact ⟨f, _, fn_of lk hcd S len fun A outer s H vs Q E hr h => hbody f A outer s H vs Q E hr h, hm, hk, Binds.all fun us hl => hb kV doc pm an (.ref c) ct us hl⟩
theorem tab_u0 {P1 P2 : Addr} {q1 q2 : Str} (h : P1 ≠ P2) : ∀ p ∈ [(P1, q1), (P2, q2)], p.1 = P1 → p.2 = q1 := fun p hp e => by
  have hp : p = (P1, q1) ∨ p = (P2, q2) := by simpa using hp
  rcases hp with rfl | rfl
  · rfl
  · exact absurd e.symm h
theorem tab_u1 {P1 P2 : Addr} {q1 q2 : Str} (h : P1 ≠ P2) : ∀ p ∈ [(P1, q1), (P2, q2)], p.1 = P2 → p.2 = q2 := fun p hp e => by
  have hp : p = (P1, q1) ∨ p = (P2, q2) := by simpa using hp
  rcases hp with rfl | rfl
  · exact absurd e h
  · rfl
def sp_lawTs (K : PySem.W.Frag) (Ps : List Addr) : Sp := fun vs H Q _ => ∃ (s : Addr) (ns : List Int), vs = [.ref s] ∧ SqL K H s (ns.map V.int) ∧ ns.length ≤ 63 ∧ (∀ P ∈ Ps, H P = some (.tbl #[])) ∧ ∀ H', Q (.bl true) H'
/-- a def that draws and makes lambdas: the state, the tables, all else -/
structure GoT (K : PySem.W.Frag) (a s : Addr) (T : List (Addr × Str)) (H H' : Hp) : Prop where
  dr : Dr K a s H'
  tb : Tabs T H'
  kp : ∀ b o, H b = some o → b ≠ a → (∀ ps, o ≠ .tbl ps) → H' b = some o
theorem GoT.of {K : PySem.W.Frag} {a s : Addr} {T : List (Addr × Str)} {H H' : Hp} (t : Tabs T H) (d : Dr K a s H) (g : Go K a s H H') : GoT K a s T H H' := ⟨g.dr, tabs_go t d g, fun b o h n _ => g.kp b o h n⟩
theorem GoT.same {K : PySem.W.Frag} {a s : Addr} {T : List (Addr × Str)} {H H' : Hp} (t : Tabs T H) (d : Dr K a s H) (g : Same H H') : GoT K a s T H H' := .of t d (Go.same d g)
theorem GoT.ext {K : PySem.W.Frag} {a s : Addr} {T : List (Addr × Str)} {H H' : Hp} (d : Dr K a s H) (e : ExtN H H') (t : Tabs T H') : GoT K a s T H H' := ⟨d.ext e, t, fun b o h _ n => e b o h n⟩
theorem GoT.trans {K : PySem.W.Frag} {a s : Addr} {T : List (Addr × Str)} {H H1 H' : Hp} (x : GoT K a s T H H1) (y : GoT K a s T H1 H') : GoT K a s T H H' := ⟨y.dr, y.tb, fun b o h n m => y.kp b o (x.kp b o h n m) n m⟩
theorem GoT.tup {K : PySem.W.Frag} {a s : Addr} {T : List (Addr × Str)} {H H' : Hp} {p : Addr} {xs : List V} (g : GoT K a s T H H') (d : Dr K a s H) (h : H p = some (.tup xs)) : H' p = some (.tup xs) := by
  refine g.kp _ _ h ?_ (fun _ z => by cases z)
  intro z
  obtain ⟨ns, i, m, l, h1, _⟩ := d.ex
  rw [z, h1] at h
  cases h
def sp_lawT (K : PySem.W.Frag) (P : Addr) : Sp := fun vs H Q _ => ∃ (s : Addr) (ns : List Int), vs = [.ref s] ∧ SqL K H s (ns.map V.int) ∧ ns.length ≤ 63 ∧ H P = some (.tbl #[]) ∧ ∀ H', Q (.bl true) H'
end My
namespace My
open PySem PySem.Spec PyProof.Rows L2
open LamX (Tabs TabS CodeO ExtN TabB LamS lamEnv lamCx)
/-! ### lambdas as values -/
/-- a lambda's text -/
structure LamT where
  params : Arguments
  body : Expr
  scope : Scope
/-- the lambda that stands at f: its code object at d, its closure cl -/
def LamO (f d : Addr) (q : Str) (cl : List (Str × Addr)) (l : LamT) : HO := .ext fun h => ∃ pm ctv : Value, h.get? f = some (PySem.W.kla_obj "<lambda>" q l.params l.body l.scope cl pm d ctv)
theorem lamO_tbl {f d : Addr} {q : Str} {cl : List (Str × Addr)} {l : LamT} (ps : Array Value) : LamO f d q cl l ≠ .tbl ps := fun z => by
  unfold LamO at z
  cases z
def tMk (T : List (Addr × Str)) (q : Str) (cells : List (Str × Addr)) (l : LamT) : TE := fun σ H Q => Tabs T H ∧ ∀ (f d : Addr) (H1 : Hp), ExtN H H1 → Tabs T H1 → H1 f = none → H1 d = some (CodeO d q) → Q (.ref f) (upd H1 f (LamO f d q (cloFrom cells l.scope.names []) l))
section
variable {X : Cx}
/-- the table tells one more -/
theorem tabs_more {T : List (Addr × Str)} {H : Hp} {P d : Addr} {q : Str} {ps : Array Value} {pos : Pos} (t : Tabs T H) (hP : H P = some (.tbl ps)) (ok : TriplesOk ps.toList) (hq : ∀ p ∈ T, p.1 = P → p.2 = q) (nd : H d = none) :
    Tabs T (upd (upd H P (.tbl (ps ++ #[rawInt pos.line, rawInt pos.col, .ref d]))) d (CodeO d q)) := by
  have old : ∀ b o, H b = some o → (∀ v, o ≠ .tbl v) → upd (upd H P (.tbl (ps ++ #[rawInt pos.line, rawInt pos.col, .ref d]))) d (CodeO d q) b = some o := fun b o e n => by
    have n1 : b ≠ d := ne_of_none e nd
    have n2 : b ≠ P := fun z => by
      subst z
      exact n _ (Option.some.inj (e.symm.trans hP))
    rw [upd_ne n1, upd_ne n2]
    exact e
  have lst : (ps ++ #[rawInt pos.line, rawInt pos.col, .ref d]).toList = ps.toList ++ [rawInt pos.line, rawInt pos.col, .ref d] := by simp
  intro p hp
  obtain ⟨v, w1, w2, w3⟩ := t p hp
  have npd : p.1 ≠ d := ne_of_none w1 nd
  by_cases hpP : p.1 = P
  · have ev : v = ps := by
      rw [hpP, hP] at w1
      exact (HO.tbl.inj (Option.some.inj w1)).symm
    subst ev
    refine ⟨_, by rw [upd_ne npd, hpP, upd_same], by rw [lst]; exact PySem.TriplesOk_snoc _ _ _ _ ok, fun p2 cv hc => ?_⟩
    rw [lst] at hc
    rcases LamX.among_app _ ok hc with z | z
    · obtain ⟨e0, z1, z2⟩ := w3 p2 cv z
      exact ⟨e0, z1, old _ _ z2 LamX.codeO_ne⟩
    · exact ⟨d, z, by rw [hq p hp hpP]; exact upd_same⟩
  · refine ⟨v, by rw [upd_ne npd, upd_ne hpP]; exact w1, w2, fun p2 cv hc => ?_⟩
    obtain ⟨e0, z1, z2⟩ := w3 p2 cv hc
    exact ⟨e0, z1, old _ _ z2 LamX.codeO_ne⟩
/-- lambda: .. -/
theorem pe_lamF {T : List (Addr × Str)} {c P : Addr} {params : Arguments} {body : Expr} {scope : Scope} {pos : Pos} (TB : TabB X.base X.mg c P) (hcode : X.env.code = .ref c) (mem : (P, X.env.qual ++ "<lambda>") ∈ T)
    (hq : ∀ p ∈ T, p.1 = P → p.2 = X.env.qual ++ "<lambda>") (L : ∀ y ∈ scope.names, y.2 = .free → X.env.scope.names.lookup y.1 = some .cell ∨ X.env.scope.names.lookup y.1 = some .free) (nodef : defaultsOf params X.env = ([], [])) :
    PE X (.Lambda params body scope pos) (tMk T (X.env.qual ++ "<lambda>") X.env.cells ⟨params, body, scope⟩) := by
  refine ⟨fun pins s σ H Q I ⟨hT, k⟩ => PySem.W.kla_eval nodef ?_⟩
  obtain ⟨ps, hP, ok, _⟩ := id (hT _ mem)
  have tell := hT _ mem
  have cl := closure_ok (env := X.env) (scope := scope) (fun y hy e => I.ok.has _ (L y hy e))
  have gl := I.mod.glob.keeps I.bk
  have cd := TB.code.keeps I.bk
  have bt : s.heap.BuiltinsAt X.mg P := TB.bm.keeps I.bk
  have oP : s.heap.get? P = some { cls := .none, data := .fields ps } := I.hok P _ hP
  have stays : ∀ {f d : Addr} {pm ctv : Value} {h1 h2 : Heap}, (∃ pm ctv : Value, h1.get? f = some (PySem.W.kla_obj "<lambda>" (X.env.qual ++ "<lambda>") params body scope (cloFrom X.env.cells scope.names []) pm d ctv)) → (∀ o, h1.get? f = some o → h2.get? f = some o) →
      ∃ pm ctv : Value, h2.get? f = some (PySem.W.kla_obj "<lambda>" (X.env.qual ++ "<lambda>") params body scope (cloFrom X.env.cells scope.names []) pm d ctv) := fun ⟨a, b, e⟩ st => ⟨a, b, st _ e⟩
  cases hc : codeAmong pos ps.toList with
  | none =>
    refine PySem.W.kla_makeFunction (mg := X.mg) (c := c) (P := P) (ps := ps) cl I.ok.glob gl hcode cd oP ok hc TB.gP bt fun d ctv h' tk grow big small rec tab => ?_
    obtain ⟨d2, oc, vs, t, e, g1, g2, g3⟩ := rec
    cases e
    have nd : H d = none := I.hok.fresh big
    have J := LamX.inv_table (q := X.env.qual ++ "<lambda>") (t' := tk) (more := #[rawInt pos.line, rawInt pos.col, .ref d]) (h' := h') I hP (fun b o hb e => grow b o hb e) tab big ⟨oc, vs, t, g1, g2, g3⟩
    have fresh := J.hok.fresh (Nat.le_refl h'.objs.size)
    have J2 := J.laid (t' := tk) (a := h'.objs.size) (o := LamO h'.objs.size d (X.env.qual ++ "<lambda>") (cloFrom X.env.cells scope.names []) ⟨params, body, scope⟩) (h' := h'.push (PySem.W.kla_obj "<lambda>" (X.env.qual ++ "<lambda>") params body scope (cloFrom X.env.cells scope.names []) ((X.mg "__name__").getD .none) d ctv))
      (fun b u e => Heap.get?_push_of_some _ e) (Nat.le_refl _) ⟨⟨_, _, Heap.get?_push_size _ rfl⟩, ⟨_, Heap.get?_push_size _ rfl⟩, fun h1 h2 x st => stays (pm := .none) (ctv := .none) x st⟩
    refine ⟨.ref h'.objs.size, _, J2, rfl, k _ d _ (fun b o e n => ?_) (tabs_more hT hP ok hq nd) fresh upd_same⟩
    rw [upd_ne (ne_of_none e nd), upd_ne (fun z => n ps (by subst z; exact Option.some.inj (e.symm.trans hP)))]
    exact e
  | some cv =>
    obtain ⟨ps2, hP2, _, ha⟩ := tell
    have e2 : ps2 = ps := HO.tbl.inj (Option.some.inj (hP2.symm.trans hP))
    subst e2
    obtain ⟨d, rfl, hd⟩ := ha pos cv hc
    refine PySem.W.kla_makeFunctionHit (mg := X.mg) (c := c) (P := P) (ps := ps2) cl I.ok.glob gl hcode cd oP ok hc bt fun ctv h' tk grow big => ?_
    have J : Inv X pins σ H { s with heap := h', toks := tk } := I.kept grow
    have fresh := J.hok.fresh (Nat.le_refl h'.objs.size)
    have J2 := J.laid (t' := tk) (a := h'.objs.size) (o := LamO h'.objs.size d (X.env.qual ++ "<lambda>") (cloFrom X.env.cells scope.names []) ⟨params, body, scope⟩) (h' := h'.push (PySem.W.kla_obj "<lambda>" (X.env.qual ++ "<lambda>") params body scope (cloFrom X.env.cells scope.names []) ((X.mg "__name__").getD .none) d ctv))
      (fun b u e => Heap.get?_push_of_some _ e) (Nat.le_refl _) ⟨⟨_, _, Heap.get?_push_size _ rfl⟩, ⟨_, Heap.get?_push_size _ rfl⟩, fun h1 h2 x st => stays (pm := .none) (ctv := .none) x st⟩
    exact ⟨.ref h'.objs.size, _, J2, rfl, k _ d _ (ExtN.refl H) hT fresh hd⟩
theorem pe_lamV {T : List (Addr × Str)} {c P : Addr} {params : Arguments} {body : Expr} {scope : Scope} {pos : Pos} (TB : TabB X.base X.mg c P) (hcode : X.env.code = .ref c) (mem : (P, X.env.qual ++ "<lambda>") ∈ T) (hq : ∀ p ∈ T, p.1 = P → p.2 = X.env.qual ++ "<lambda>")
    (L : LamS X.env.scope scope) (nodef : defaultsOf params X.env = ([], [])) : PE X (.Lambda params body scope pos) (tMk T (X.env.qual ++ "<lambda>") X.env.cells ⟨params, body, scope⟩) := pe_lamF TB hcode mem hq L.free nodef
end
/-! ### what the closure's cells hold -/
structure CellsAt (cells : List (Str × Addr)) (sc : Scope) (N : List Str) (σ : L2.St) (H : Hp) (h : Heap) : Prop where
  inj : ∀ x y c, cells.lookup x = some c → cells.lookup y = some c → x = y
  at_ : ∀ y, (y, NameKind.free) ∈ sc.names → ∃ c, cells.lookup y = some c ∧ H c = none ∧ (∃ v, h.IsCell c v) ∧ ∀ (i : Nat) v, N[i]? = some y → σ[i]? = some (some v) → ∃ u, RelV v u ∧ h.IsCell c (some u)
theorem CellsAt.of {X : Cx} {pins : List (Addr × Obj)} {σ : L2.St} {H : Hp} {s : Shared} {sc : Scope} (I : Inv X pins σ H s) (L : LamS X.env.scope sc) : CellsAt X.env.cells sc X.N σ H s.heap := by
  refine ⟨I.ok.inj, fun y hy => ?_⟩
  obtain ⟨c, hc⟩ := L.has I.ok _ hy rfl
  refine ⟨c, hc, I.freeC _ _ hc, I.cell _ _ hc, fun i v e1 e2 => ?_⟩
  obtain ⟨m, _, hl⟩ := I.loc
  have kf := L.free _ hy rfl
  obtain ⟨u, r, q⟩ := hl i y v e1 e2 (kf.elim (fun z => .inr (.inl z)) (fun z => .inr (.inr z)))
  refine ⟨u, r, ?_⟩
  rcases q with ⟨z, _⟩ | ⟨_, c2, z, hz⟩
  · have z : X.env.scope.names.lookup y = some .local := z
    rcases kf with kf | kf <;> rw [show X.env.scope.names.lookup y = _ from kf] at z <;> cases z
  · rw [show X.env.cells.lookup y = some c from hc] at z
    cases z
    exact hz
theorem CellsAt.un {cells : List (Str × Addr)} {sc : Scope} {N : List Str} {σ : L2.St} {fs ex : List Addr} {H H' : Hp} {h h' : Heap} (C : CellsAt cells sc N σ H h) (u : Un fs ex H H' h h') (hx : ∀ y c, cells.lookup y = some c → c ∉ ex) : CellsAt cells sc N σ H' h' := by
  refine ⟨C.inj, fun y hy => ?_⟩
  obtain ⟨c, hc, nc, ⟨v, o, ho, hd⟩, hv⟩ := C.at_ y hy
  have one : ∀ {w : Option Value}, h.IsCell c w → h'.IsCell c w := fun ⟨o, ho, hd⟩ => by
    obtain ⟨sl, q⟩ := u.any ho nc (hx y c hc)
    exact ⟨_, q, hd⟩
  exact ⟨c, hc, u.free c o ho nc (hx y c hc), ⟨v, one ⟨o, ho, hd⟩⟩, fun i v e1 e2 => let ⟨w, r, z⟩ := hv i v e1 e2; ⟨w, r, one z⟩⟩
/-- the maker's names, from another place -/
abbrev _root_.L2.Cx.as (Y : Cx) (N : List Str) (e : Env) : Cx := { Y with N := N, env := e }
section
variable {Y : Cx} {Nd : List Str} {ed : Env} {σd : L2.St} {HZ : Hp} {s1 : Shared}
theorem lam_startC {A : Around} {outer : List Env} {E : XK} {scope : Scope} {f d : Addr} {h1 : Heap} {tk : Nat} (C : CellsAt ed.cells scope Nd σd HZ s1.heap) (L : LamS ed.scope scope) (hlen : σd.length = Nd.length) (e0 : Env0 Y.prog Y.w Y.K Y.mg Y.base A outer s1 HZ) (hd : A.handled = none)
    (new : h1.Ns s1.heap.objs.size fun y => ([] : List (Str × Value)).reverse.lookup y) (kp : ∀ b o, s1.heap.get? b = some o → h1.get? b = some o) :
    Inv (lamCx (Y.as Nd ed) A outer s1 HZ E scope f d) [] σd HZ { s1 with heap := h1, toks := tk } := by
  have from_ : ∀ {y c}, (cloFrom ed.cells scope.names []).lookup y = some c → (y, NameKind.free) ∈ scope.names ∧ ed.cells.lookup y = some c := fun {y c} e => by
    rcases cloFrom_mem (PySem.mem_of_lookup e) with z | ⟨z1, z2⟩
    · cases z
    · obtain ⟨c1, hc, _⟩ := C.at_ y z1
      refine ⟨z1, ?_⟩
      rw [z2, hc]
      rfl
  have into : ∀ {y}, scope.names.lookup y = some .free → ∃ c, (cloFrom ed.cells scope.names []).lookup y = some c := fun {y} e =>
    mem_lookup (cloFrom_has (cells := ed.cells) (acc := []) (PySem.mem_of_lookup e))
  have none_ : ∀ b : Addr, b ∉ (lamCx (Y.as Nd ed) A outer s1 HZ E scope f d).ex := fun b z => by cases (show b ∈ ([] : List Addr) from z)
  have ok : (lamCx (Y.as Nd ed) A outer s1 HZ E scope f d).Ok := by
    refine ⟨e0.mod, L.kind, rfl, rfl, Nat.le_refl _, fun y z c e1 e2 => C.inj y z c (from_ e1).2 (from_ e2).2, fun y hy => ?_, fun y c z _ => ?_, fun _ => hd, Around.frames_deeper e0.frames, .inr ⟨rfl, rfl⟩, fun b z => absurd z (none_ b), e0.bs, e0.bsz, fun b _ _ => none_ b, fun b z => absurd z (none_ b), e0.funs, e0.frf⟩
    · have hy : scope.names.lookup y = some .cell ∨ scope.names.lookup y = some .free := hy
      rcases hy with z | z
      · exact absurd rfl (L.own _ (PySem.mem_of_lookup z)).2
      · exact into z
    · have z : false = true := z
      cases z
  refine ⟨ok, rfl, e0.bare, Un.kept kp, ⟨_, new, fun i y v e1 e2 e3 => ?_⟩, fun y c e => ?_, e0.hok.fresh (Nat.le_refl _), fun y c e => ?_, fun p hp => (by cases (show p ∈ ([] : List (Addr × Obj)) ++ [] from hp)), e0.hok.kept kp, hlen⟩
  · have e3 : Vis scope y := e3
    rcases e3 with z | z | z
    · exact absurd rfl (L.own _ (PySem.mem_of_lookup z)).1
    · exact absurd rfl (L.own _ (PySem.mem_of_lookup z)).2
    · obtain ⟨c, hc⟩ := into z
      obtain ⟨c2, hc2, _, _, hv⟩ := C.at_ y (PySem.mem_of_lookup z)
      rw [(from_ hc).2] at hc2
      cases hc2
      obtain ⟨u, r, hz⟩ := hv i v e1 e2
      exact ⟨u, r, .inr ⟨.inr z, c, hc, hz.keeps kp⟩⟩
  · obtain ⟨z1, z2⟩ := from_ e
    obtain ⟨c2, hc2, _, ⟨v, hv⟩, _⟩ := C.at_ y z1
    rw [z2] at hc2
    cases hc2
    exact ⟨v, hv.keeps kp⟩
  · obtain ⟨z1, z2⟩ := from_ e
    obtain ⟨c2, hc2, n, _⟩ := C.at_ y z1
    rw [z2] at hc2
    cases hc2
    exact n
/-- what is known of a lambda's text: its body's reading -/
structure LamK (X : Cx) (k : Nat) (l : LamT) (t : XK → TE) : Prop where
  sc : LamS X.env.scope l.scope
  bind : ∀ (q : Str) (cl : List (Str × Addr)) (pm cv ctv : Value), bindArgs (PySem.W.kla_fn "<lambda>" q l.params l.body l.scope cl pm cv ctv) ⟨[], []⟩ = pure []
  body : ∀ (A : Around) (outer : List Env) (s : Shared) (H : Hp) (E : XK) (f d : Addr), Room k (A.deeper (lamEnv X l.scope s.heap.objs.size f d)) → PE (lamCx X A outer s H E l.scope f d) l.body (t E)
/-- a(), in the def that got the lambda -/
theorem pe_actC {CXg : CXT} {Eg : XK} {Ng : List Str} {qg q : Str} {sg : Scope} {g f d : Addr} {cdg : Value} {l : LamT} {t : XK → TE} {k i : Nat} {a : Str} {s : Shared} {H : Hp} {pn : List (Addr × Obj)} {xe : Value → Shared → Prop} {W : WX} {E : XK} {p1 p2 : Pos} (lk : LamK (Y.as Nd ed) k l t) (hlen : σd.length = Nd.length)
    (C : CellsAt ed.cells l.scope Nd σd H s.heap) (eq : q = ed.qual ++ "<lambda>") (tk : Takes ((cxOf CXg Y.prog Y.w Y.K Y.mg Y.base Ng qg sg g cdg Y.A Y.stack s H Eg).tr pn xe) W) (hW : ∀ cls d σ' H', E cls d H' → W cls d σ' H') (hr : Room (k + 1) (Y.A.deeper (envOfC qg sg s.heap.objs.size g cdg)))
    (hN : Ng[i]? = some a) (hv : Vis sg a) (hd : (a == ("__debug__" : Str)) = false := by decide) (hcd : (a == ("__classdict__" : Str)) = false := by decide) :
    PE ((cxOf CXg Y.prog Y.w Y.K Y.mg Y.base Ng qg sg g cdg Y.A Y.stack s H Eg).tr pn xe) (.Call (.Name a p1) [] [] p2)
      (fun σZ HZ Q => σZ[i]? = some (some (.ref f)) ∧ HZ d = some (CodeO d q) ∧ HZ f = some (LamO f d q (cloFrom ed.cells l.scope.names []) l) ∧ t E σd HZ Q) := by
  subst eq
  refine ⟨fun pz sz σz HZ Q IZ ⟨w1, w2, w3, w4⟩ => ?_⟩
  refine wpAny_Call_Name_kw (thn ((pe_var (pos := p1) (i := i) hN hv hd hcd).run pz sz σz HZ (fun v H1 => v = .ref f ∧ H1 = HZ) IZ ⟨.ref f, w1, rfl, rfl⟩) fun u s1 ⟨v, H1, I1, r1, ⟨ev, eH⟩⟩ => ?_)
  subst ev
  subst eH
  obtain rfl : u = Value.ref f := r1
  obtain ⟨⟨pm, ctv, ho⟩, _, _⟩ := I1.hok f _ w3
  obtain ⟨⟨oc, vs, tq, oc1, oc2, oc3⟩, _, _⟩ := I1.hok d _ w2
  have un : Un (frs Y.stack) [] H H1 s.heap s1.heap := I1.base
  have C1 := C.un un (fun _ _ _ z => by cases z)
  refine PySem.W.callWith_F0 ⟨_, _, _, _, ho⟩ ?_
  have run : codeAny (model Y.prog Y.w) (Y.A.deeper (envOfC qg sg s.heap.objs.size g cdg)) (.call (.ref f) ⟨[], []⟩) (CR (L2.CX Y.prog Y.w) (envOfC qg sg s.heap.objs.size g cdg :: Y.stack) Y.prog Y.w H1 s1 Q E) s1 := by
    refine PySem.W.kla_callFunE hr.depth ho rfl lk.sc.co lk.sc.gen rfl ⟨d, oc, vs, tq, rfl, oc1, oc2, oc3⟩ ?_
    rw [lk.bind]
    refine wpAny_pure (wpAny_newFunctionEnv (fun y hy => (lk.sc.own y hy).2) (fun y hy => by cases hy) (fun h1 new but => ⟨I1.nolimit.fresh _ but, ?_⟩) lk.sc.kind)
    show codeAny _ _ (.expr l.body (lamEnv (Y.as Nd ed) l.scope s1.heap.objs.size f d)) _ _
    have kp : ∀ b o, s1.heap.get? b = some o → h1.get? b = some o := fun b o e => but.extBut b o (Nat.ne_of_lt (Heap.lt_size e)) (Heap.get?_push_of_some _ e)
    have J := lam_startC (Y := Y) (A := Y.A.deeper (envOfC qg sg s.heap.objs.size g cdg)) (outer := envOfC qg sg s.heap.objs.size g cdg :: Y.stack) (E := E) (f := f) (d := d) (tk := s1.toks + ([] : List (Str × Value)).length) C1 lk.sc hlen I1.env0 hr.hd new kp
    refine PySem.W.kla_codeExpr (wpAny_mono ((lk.body _ _ s1 H1 E f d (hr.deeper _)).run [] _ _ H1 Q J w4) (fun v s' hq => ?_) fun e s' hq => hq)
    obtain ⟨w', H', J', rv, q⟩ := hq
    exact ⟨w', H', J'.os, J'.bare, J'.base, J'.hok, rv, q⟩
  have hx : Passes (L2.CX Y.prog Y.w) ((cxOf CXg Y.prog Y.w Y.K Y.mg Y.base Ng qg sg g cdg Y.A Y.stack s H Eg).tr pn xe) E := passes_call tk hW
  refine wpAny_call (codeAny_mono run fun r s' hq => ?_)
  match r, hq with
  | .error e, hq => exact hx pz σz H1 s1 e s' I1 hq
  | .ok (.ret u), hq => exact I1.after hq
/-- x(e), e a lambda that was made before -/
def tKV (te : TE) (ls : List (LamT × (XK → TE))) (q : Str) (cells : List (Str × Addr)) (σd : L2.St) (TT : (XK → Hp → VK → Prop) → Hp → VK → Prop) : TE := fun σ H Q => te σ H fun v H1 => ∃ (f d : Addr) (l : LamT) (t : XK → TE), v = .ref f ∧ (l, t) ∈ ls ∧
  H1 d = some (CodeO d q) ∧ H1 f = some (LamO f d q (cloFrom cells l.scope.names []) l) ∧ TT (fun E H' Q' => H' f = some (LamO f d q (cloFrom cells l.scope.names []) l) ∧ t E σd H' Q') H1 Q
theorem pe_kindV {TT : (XK → Hp → VK → Prop) → Hp → VK → Prop} {ls : List (LamT × (XK → TE))} {x a q : Str} {k : Nat} {st : Stmt} {Ng : List Str} {e : Expr} {te : TE} {p pos : Pos} (D : FnL Y.K Y.mg x st) (hg : Gl Y x)
    (hb : ∀ (kV doc pm : Value) (an : Option Addr) (cdv ct : Value) (us : List Value), us.length = [a].length → bindArgs (PySem.W.fnOf x x (defArgs st) (defBody st) (defScope st) .none kV doc pm an cdv ct) ⟨us, []⟩ = pure ([a].zip us))
    (Sg : FnScope Ng [a] (defScope st)) (hNg : Ng[0]? = some a) (hva : Vis (defScope st) a) (hG : ∀ (g : Addr) (cdv : Value), LamX.GivesTo Y Ng x (defScope st) g cdv (defBody st) a q TT) (eq : q = ed.qual ++ "<lambda>") (hr : Room (k + 2) Y.A) (lks : ∀ p ∈ ls, LamK (Y.as Nd ed) k p.1 p.2) (hlen : σd.length = Nd.length)
    (hC : ∀ (pins : List (Addr × Obj)) (σ' : L2.St) (H' : Hp) (s' : Shared), Inv Y pins σ' H' s' → ∀ p ∈ ls, CellsAt ed.cells p.1.scope Nd σd H' s'.heap) (he : PE Y e te)
    (hst : starEach [e] Y.env = (false, eval e Y.env) :: starEach [] Y.env := by rfl) (hdb : (x == ("__debug__" : Str)) = false := by decide) (hd : (a == ("__debug__" : Str)) = false := by decide) (hcd : (a == ("__classdict__" : Str)) = false := by decide) :
    PE Y (.Call (.Name x p) [e] [] pos) (tKV te ls q ed.cells σd TT) := by
  obtain ⟨g, oc, od, kV, doc, pm, an, cdv, ct, osl, lk, hcg, hk, hm⟩ := D.ex
  refine ⟨fun pins s σ H Q I h => wpAny_Call_Name_kw (ld_glob I hg hm ?_ hdb)⟩
  refine PySem.W.callWith_K (h₀ := Y.base) I.ok.mod.kin hk ?_ hst (by rfl)
  rw [hst]
  show wpAny _ _ (spliced ((false, eval e Y.env) :: backTo pos (starEach [] Y.env))) _ _ s
  refine Calls.spliced_cons (thn (he.run pins s σ H _ I h) fun u s1 ⟨v, H1, I1, r1, f, d, l, t, ev, hl, h2, h3, h4⟩ => ?_)
  subst ev
  obtain rfl : u = Value.ref f := r1
  refine Calls.spliced_nil ⟨I1.kIn, ?_⟩
  have run : codeAny (model Y.prog Y.w) Y.A (.call (.ref g) ⟨[.ref f], []⟩) (CR C8.CX0 Y.stack Y.prog Y.w H1 s1 Q C8.E0) s1 := by
    refine LamX.run_ofS (N := Ng) (ps := [a]) (us := [.ref f]) (vs := [.ref f]) lk hcg Sg hr I1.env0 (Binds.all (fun us hl => hb kV doc pm an cdv ct us hl) s1 [.ref f] I1.kIn rfl) (.cons rfl .nil) rfl fun hr' => ?_
    obtain ⟨t', ht', hq'⟩ := hG g cdv f d s1 H1 Q (fun E H' Q' => H' f = some (LamO f d q (cloFrom ed.cells l.scope.names []) l) ∧ t E σd H' Q')
      (fun W pn xe E p1 p2 tk hW => pe_actC (i := 0) (lks _ hl) hlen (hC _ _ _ _ I1 _ hl) eq tk hW hr' hNg hva hd hcd) h2 h4
    exact ⟨t', ht'.nox, hq'⟩
  refine wpAny_call (codeAny_mono run fun r s2 hq => ?_)
  match r, hq with
  | .ok (.ret u), hq => exact I1.after hq
end
end My
namespace My
open PySem PySem.Spec PyProof.Rows L2
open LamX (Tabs TabS CodeO ExtN TabB LamS lamEnv lamCx)
/-! ### sorted(places, key=lambda k: (xs[k], k)) -/
def keyD (ts : List Int) (j : Nat) : PyData := .tuple [.int (ts.getD j 0), .int (j : Int)]
def LtK (ts : List Int) (i j : Nat) : Prop := ts.getD i 0 < ts.getD j 0 ∨ (ts.getD i 0 = ts.getD j 0 ∧ i < j)
theorem keyLe {ts : List Int} {i j : Nat} (h : PySem.W.dataLe false (keyD ts) i j = true) : ¬ LtK ts j i := by
  intro z
  have e : PyProof.Rows.lexLt PyProof.Rows.itemOrd (PySem.W.keyToks (keyD ts j)) (PySem.W.keyToks (keyD ts i)) = true := by
    simp only [keyD, PySem.W.keyToks, PySem.W.keyToksAll, List.cons_append, List.nil_append, PyProof.Rows.lexLt, PyProof.Rows.itemLt, Bool.or_eq_true, Bool.and_eq_true, Bool.not_eq_true', decide_eq_true_eq, decide_eq_false_iff_not]
    unfold LtK at z
    omega
  have h2 : (!PyProof.Rows.lexLt PyProof.Rows.itemOrd (PySem.W.keyToks (keyD ts j)) (PySem.W.keyToks (keyD ts i))) = true := h
  rw [e] at h2
  cases h2
theorem sorted_js {ts : List Int} {m : Nat} : ((List.range m).mergeSort (PySem.W.dataLe false (keyD ts))).Perm (List.range m) ∧ ((List.range m).mergeSort (PySem.W.dataLe false (keyD ts))).Pairwise (LtK ts) := by
  have p := List.mergeSort_perm (List.range m) (PySem.W.dataLe false (keyD ts))
  refine ⟨p, ?_⟩
  have s := PySem.W.sort_pairwise (PySem.W.sortLe_total (PyProof.Rows.listOrd PyProof.Rows.itemOrd) false fun b => PySem.W.keyToks (keyD ts b)) (List.range m)
  have nd : ((List.range m).mergeSort (PySem.W.dataLe false (keyD ts))).Pairwise (· ≠ ·) := p.nodup_iff.mpr List.nodup_range
  refine List.Pairwise.imp (fun {i j} h => ?_) (List.pairwise_and_iff.mpr ⟨s, nd⟩)
  have h1 := keyLe h.1
  have h2 := h.2
  unfold LtK at h1 ⊢
  omega
/-- one name of its own, its parameter; captured names and globals -/
structure LamP (sc scope : Scope) (kn tn : Str) : Prop where
  kind : scope.kind = .function
  co : scope.isCoroutine = false
  gen : scope.isGenerator = false
  own : ∀ y ∈ scope.names, y.2 ≠ .cell
  k : scope.names.lookup kn = some .local
  t : scope.names.lookup tn = some .free
  free : ∀ y ∈ scope.names, y.2 = .free → sc.names.lookup y.1 = some .cell ∨ sc.names.lookup y.1 = some .free
def lamPB (sc scope : Scope) (kn tn : Str) : Bool :=
  decide (scope.kind = .function) && !scope.isCoroutine && !scope.isGenerator && (scope.names.all fun y => !decide (y.2 = .cell)) && decide (scope.names.lookup kn = some .local) && decide (scope.names.lookup tn = some .free) &&
    scope.names.all fun y => !decide (y.2 = .free) || decide (sc.names.lookup y.1 = some .cell) || decide (sc.names.lookup y.1 = some .free)
theorem lamP_by {sc scope : Scope} {kn tn : Str} (h : lamPB sc scope kn tn = true) : LamP sc scope kn tn := by
  unfold lamPB at h
  simp only [Bool.and_eq_true, Bool.or_eq_true, Bool.not_eq_true', decide_eq_true_eq, decide_eq_false_iff_not, List.all_eq_true] at h
  obtain ⟨⟨⟨⟨⟨⟨h1, h2⟩, h3⟩, h4⟩, h5⟩, h6⟩, h7⟩ := h
  exact ⟨h1, h2, h3, h4, h5, h6, fun y hy e => by
    rcases h7 y hy with (z | z) | z
    · exact absurd e z
    · exact .inl z
    · exact .inr z⟩
section
variable {X : Cx} {pins : List (Addr × Obj)} {σ : L2.St} {H : Hp} {s : Shared}
/-- the ledger of all that is not in the base -/
theorem led_keep (I : Inv X pins σ H s) {h' : Heap} {mm : Str → Option Value} {own : List (Addr × Obj)} (F : Fr X.base X.env.locals h' mm) (N : News X.base X.env.locals h' (allNews X.base s.heap X.env.locals ++ own)) :
    ∀ b o, b ≠ X.env.locals → s.heap.get? b = some o → h'.get? b = some o := fun b o n e => by
  cases q : X.base.get? b with
  | some u =>
    have := I.bk b u q
    rw [e] at this
    cases this
    exact F.keep b _ q
  | none => exact (N (b, o) (List.mem_append_left _ (mem_allNews n q e))).1
theorem not_locals (I : Inv X pins σ H s) {b : Addr} {o : Obj} (e : s.heap.get? b = some o) (d : ∀ es ep, o.data ≠ .dict es ep) : b ≠ X.env.locals := fun z => by
  obtain ⟨m, ⟨ol, es, ep, e1, e2, _⟩, _⟩ := I.loc
  rw [z, e1] at e
  cases e
  exact d _ _ e2
/-- the key's call -/
theorem key_turn {kn tn : Str} {f d : Addr} {q : Str} {l : LamT} {L c : Addr} {ts : List Int} {i : Nat} {t : Tok} {x1 : Nat} {p1 p2 p3 p4 p5 : Pos} (I : Inv X pins σ H s) (room : X.A.depth < recursionLimit) (lp : LamP X.env.scope l.scope kn tn)
    (hbody : l.body = .Tuple [.Subscript (.Name tn p1) (.Name kn p2) p3, .Name kn p4] x1 p5) (hbind : ∀ (q : Str) (cl : List (Str × Addr)) (pm cv ctv v : Value), bindArgs (PySem.W.kla_fn "<lambda>" q l.params l.body l.scope cl pm cv ctv) ⟨[v], []⟩ = pure [(kn, v)])
    (hf : H f = some (LamO f d q (cloFrom X.env.cells l.scope.names []) l)) (hd : H d = some (CodeO d q)) (eq : q = X.env.qual ++ "<lambda>") (hc : X.env.cells.lookup tn = some c) (hcell : s.heap.IsCell c (some (.ref L))) (hL : SqL X.K H L (ts.map V.int)) (hi : i < ts.length) (hi63 : (i : Int) < 2 ^ 63)
    {h' : Heap} {tk : Nat} {mm : Str → Option Value} {own : List (Addr × Obj)} (F : Fr X.base X.env.locals h' mm) (N : News X.base X.env.locals h' (allNews X.base s.heap X.env.locals ++ own)) (hdb : (tn == ("__debug__" : Str)) = false ∧ (kn == ("__debug__" : Str)) = false ∧ (tn == ("__classdict__" : Str)) = false) :
    wpAny (model X.prog X.w) X.A.in1.in1 (call (.ref f) [.int (i : Int) t]) (PySem.W.KeyEnd X.base X.env.locals mm (allNews X.base s.heap X.env.locals ++ own) (keyD ts i) { s with heap := h', toks := tk }) (fun _ _ => False) { s with heap := h', toks := tk } := by
  subst eq
  have kp := led_keep I F N
  obtain ⟨⟨pm, ctv, ho⟩, _, _⟩ := I.hok f _ hf
  obtain ⟨⟨oc, vs, tq, oc1, oc2, oc3⟩, _, _⟩ := I.hok d _ hd
  have ho' := kp f _ (not_locals I ho (fun _ _ z => by cases z)) ho
  have oc' := kp d _ (not_locals I oc1 (fun _ _ z => by rw [oc2] at z; cases z)) oc1
  obtain ⟨ob, hb1, hb2⟩ := id hcell
  have cell' : h'.IsCell c (some (.ref L)) := ⟨ob, kp c _ (not_locals I hb1 (fun _ _ z => by rw [hb2] at z; cases z)) hb1, hb2⟩
  obtain ⟨its, rv, pl, hz⟩ := I.list hL
  have isI := ints_of_vals rv
  obtain ⟨ol, hl1, hl2, nl, hl3⟩ := pl.isList
  have list' : h'.IsList L its.toArray := ⟨ol, kp L _ (not_locals I hl1 (fun _ _ z => by rw [hl3] at z; cases z)) hl1, hl2, nl, hl3⟩
  have lenI : its.length = ts.length := IntsAre.length isI
  obtain ⟨u, hu⟩ := IntsAre.int_at isI i its[i] (List.getElem?_eq_getElem (by omega))
  refine wpAny_call (PySem.W.kla_callFunE (A := X.A.in1.in1) room ho' rfl lp.co lp.gen rfl ⟨d, oc, vs, tq, rfl, oc', oc2, oc3⟩ ?_)
  rw [hbind]
  refine wpAny_pure (wpAny_newFunctionEnv (fun y hy => lp.own y hy) (fun y hy => by rw [List.mem_singleton.mp hy]; exact lp.k) (fun h1 new but => ⟨(I.mod.nolimit.keeps F.keep).fresh _ but, ?_⟩) lp.kind)
  have kp1 : ∀ b o, h'.get? b = some o → h1.get? b = some o := fun b o e => but.extBut b o (Nat.ne_of_lt (Heap.lt_size e)) (Heap.get?_push_of_some _ e)
  have clo : (cloFrom X.env.cells l.scope.names []).lookup tn = some c := by
    obtain ⟨c2, e2⟩ := mem_lookup (cloFrom_has (cells := X.env.cells) (acc := []) (PySem.mem_of_lookup lp.t))
    rcases cloFrom_mem (PySem.mem_of_lookup e2) with z | ⟨_, z⟩
    · cases z
    · rw [e2, z, hc]
      rfl
  have F1 : Fr X.base X.env.locals h1 mm := F.keptAll kp1
  have N1 : News X.base X.env.locals h1 (allNews X.base s.heap X.env.locals ++ own) := fun p hp => ⟨kp1 _ _ (N p hp).1, (N p hp).2⟩
  have list1 : h1.IsList L its.toArray := ⟨ol, kp1 _ _ (kp L _ (not_locals I hl1 (fun _ _ z => by rw [hl3] at z; cases z)) hl1), hl2, nl, hl3⟩
  show codeAny _ _ (.expr l.body (lamEnv X l.scope h'.objs.size f d)) _ _
  have e1 : (lamEnv X l.scope h'.objs.size f d).scope = l.scope := rfl
  have e2 : (lamEnv X l.scope h'.objs.size f d).cells = cloFrom X.env.cells l.scope.names [] := rfl
  have e3 : (lamEnv X l.scope h'.objs.size f d).locals = h'.objs.size := rfl
  generalize lamEnv X l.scope h'.objs.size f d = ev at e1 e2 e3 ⊢
  have kind : ev.scope.kind = .function := by rw [e1]; exact lp.kind
  have kk : ev.kindOf kn = some .local := by unfold Env.kindOf; rw [e1]; exact lp.k
  have kt : ev.kindOf tn = some .free := by unfold Env.kindOf; rw [e1]; exact lp.t
  have clo1 : ev.cells.lookup tn = some c := by rw [e2]; exact clo
  have new1 : h1.Ns ev.locals (fun y => ([(kn, Value.int (i : Int) t)] : List (Str × Value)).reverse.lookup y) := by rw [e3]; exact new
  have at1 : (fun y => ([(kn, Value.int (i : Int) t)] : List (Str × Value)).reverse.lookup y) kn = some (Value.int (i : Int) t) := by
    show List.lookup kn [(kn, Value.int (i : Int) t)] = _
    rw [List.lookup_cons_self]
  have cell1 : h1.IsCell c (some (.ref L)) := cell'.keeps kp1
  rw [hbody]
  refine PySem.W.kla_codeExpr (wpAny_Tuple_spliced ?_)
  show wpAny _ _ (spliced ((false, eval (.Subscript (.Name tn p1) (.Name kn p2) p3) ev) :: backTo p5 (starEach [.Name kn p4] ev))) _ _ _
  refine Calls.spliced_cons (Subscript_ (wpAny_Name ?_ hdb.1))
  refine wpAny_loadName_free kind kt clo1 cell1 ?_ hdb.2.2
  refine wpAny_Name ?_ hdb.2.1
  refine wpAny_loadName_local kind kk new1 at1 ?_
  have ix : its.toArray[((i : Int)).toNat]? = some (.int (ts.getD i 0) u) := by
    rw [← hu]
    simp
  refine item_listR list1 (Int.natCast_nonneg i) hi63 ix ?_
  show wpAny _ _ (spliced ((false, eval (.Name kn p4) ev) :: backTo p5 (starEach [] ev))) _ _ _
  refine Calls.spliced_cons (wpAny_Name (wpAny_loadName_local kind kk new1 at1 ?_) hdb.2.1)
  refine Calls.spliced_nil ⟨by simp [sizeLine], ?_⟩
  have tup : (h1.push { cls := .type "tuple", data := .seq [Value.int (ts.getD i 0) u, Value.int (i : Int) t].toArray }).get? h1.objs.size = some { cls := .type "tuple", data := .seq [Value.int (ts.getD i 0) u, Value.int (i : Int) t].toArray } := Heap.get?_push_size _ rfl
  have kp2 : ∀ b o, h1.get? b = some o → (h1.push { cls := .type "tuple", data := .seq [Value.int (ts.getD i 0) u, Value.int (i : Int) t].toArray }).get? b = some o := fun b o e => Heap.get?_push_of_some _ e
  refine ⟨_, _, [(h1.objs.size, { cls := .type "tuple", data := .seq [Value.int (ts.getD i 0) u, Value.int (i : Int) t].toArray })], rfl, fun h2 _ more => ?_, fun p hp => by rw [List.mem_singleton.mp hp], F1.keptAll kp2, fun p hp => ?_⟩
  · exact ⟨_, .tuple (more _ (List.mem_singleton.mpr rfl)) rfl rfl (.cons (.int _ _) (.cons (.int _ _) .nil))⟩
  · rcases List.mem_append.mp hp with hp | hp
    · exact ⟨kp2 _ _ (N1 p hp).1, (N1 p hp).2⟩
    · rw [List.mem_singleton.mp hp]
      refine ⟨tup, Nat.ne_of_gt F1.ns.lt, ?_⟩
      cases q : X.base.get? h1.objs.size with
      | none => rfl
      | some o => exact absurd (Heap.lt_size (F1.keep _ _ q)) (Nat.lt_irrefl _)
end
end My
namespace My
open PySem PySem.Spec PyProof.Rows L2
open LamX (Tabs TabS CodeO ExtN TabB LamS lamEnv lamCx)
theorem obj_some {P : Program} {w : World} {H : Hp} {h : Heap} {a : Addr} {o : HO} (x : ObjOk P w H h a o) : ∃ ob, h.get? a = some ob := by
  cases o with
  | lst xs => obtain ⟨_, _, _, _, e⟩ := x; exact ⟨_, e⟩
  | tup xs => obtain ⟨_, _, _, o, e, _⟩ := x; exact ⟨o, e⟩
  | dK kvs => obtain ⟨_, _, _, _, o, _, _, e, _⟩ := x; exact ⟨o, e⟩
  | dT kvs => obtain ⟨_, _, _, _, o, _, _, e, _⟩ := x; exact ⟨o, e⟩
  | set S n => obtain ⟨o, _, _, _, e, _⟩ := x; exact ⟨o, e⟩
  | ins C dx fs => obtain ⟨_, _, _, e, _⟩ := x; exact ⟨_, e⟩
  | own y => exact x
  | xd fs => obtain ⟨_, ⟨o, _, _, e, _⟩, _⟩ := x; exact ⟨o, e⟩
  | rng lo hi => obtain ⟨_, _, _, e⟩ := x; exact ⟨_, e⟩
  | frz ob u => exact ⟨ob, x.1⟩
  | tbl ps => exact ⟨_, x⟩
  | met f y => exact ⟨_, x⟩
  | ext φ => exact x.2.1
section
variable {X : Cx} {pins : List (Addr × Obj)} {σ : L2.St} {H : Hp} {s : Shared}
/-- behind a rule that kept all but the frame and left a new list at D -/
theorem led_list (I : Inv X pins σ H s) {h' : Heap} {tk : Nat} {mm : Str → Option Value} {D c : Nat} {out : List Value} {ys : List V} (F0 : Fr X.base X.env.locals s.heap mm) (F : Fr X.base X.env.locals h' mm)
    (N : News X.base X.env.locals h' ((D, PySem.W.listOf (List.toArray out) c) :: allNews X.base s.heap X.env.locals)) (lt : ∀ q ∈ allNews X.base s.heap X.env.locals, q.1 < D) (v : Vals ys out) (hz : ys.length ≤ sizeLine) :
    H D = none ∧ Inv X pins σ (upd H D (.lst ys)) { s with heap := h', toks := tk } := by
  obtain ⟨d1, d2, d3⟩ := N _ List.mem_cons_self
  have kp := led_keep I F (own := []) (fun p hp => N p (by rw [List.append_nil] at hp; exact List.mem_cons_of_mem _ hp))
  have no : s.heap.get? D = none := by
    cases e : s.heap.get? D with
    | none => rfl
    | some o => exact absurd (lt _ (mem_allNews d2 d3 e)) (Nat.lt_irrefl _)
  have nD : H D = none := by
    cases e : H D with
    | none => rfl
    | some o =>
      obtain ⟨ob, z⟩ := obj_some (I.hok D o e)
      rw [no] at z
      cases z
  refine ⟨nD, I.step (g' := s.gens) (d' := s.drawn) (ch := []) (fun b hb => by cases hb) (fun b o n1 _ _ e _ => kp b o n1 e) (fun b o n1 _ _ e _ => ⟨o.slots, kp b o n1 e⟩) (fun b o _ e n => by
      rw [upd_ne (fun z => by rw [z, no] at e; cases e)]
      exact n) (fun b o _ e => ?_) (fun b xs e => by rw [upd_ne (ne_of_none e nD)]; exact e) (fun b o u e => by rw [upd_ne (ne_of_none e nD)]; exact e) (fun b ps e => ⟨#[], by rw [upd_ne (ne_of_none e nD), e]; simp⟩) (fun m hm => ?_) (fun b u e => ?_) I.bare⟩
  · by_cases z : b = X.env.locals
    · obtain ⟨ol, _, _, e1, _⟩ := F.ns
      exact ⟨ol, by rw [z]; exact e1⟩
    · exact ⟨o, kp b o z e⟩
  · rw [SlX.ns_only hm F0.ns]
    exact F.ns
  · by_cases z : b = D
    · subst z
      rw [upd_same] at e
      cases e
      exact ⟨hz, out, c, v, d1⟩
    · rw [upd_ne z] at e
      have nl : b ≠ X.env.locals := fun y => by
        rw [y, I.free] at e
        cases e
      refine (I.hok b u e).stay (fun b2 u2 h2 q2 => kp b2 u2 (fun y => ?_) q2) (fun b2 q2 => by rw [upd_ne (ne_of_none q2 nD)]; exact q2) (fun b2 xs q2 => by rw [upd_ne (ne_of_none q2 nD)]; exact q2)
      rcases h2 with rfl | h2
      · exact nl y
      · rw [y, I.free] at h2
        cases h2
theorem ints_range {its : List Value} {m : Nat} (h : IntsAre its ((List.range m).map fun j : Nat => (j : Int))) : PySem.W.EachIs (fun (v : Value) (j : Nat) => ∃ t, v = .int (j : Int) t) its (List.range m) := by
  generalize List.range m = js at h ⊢
  induction js generalizing its with
  | nil => cases h; exact .nil
  | cons j js ih =>
    cases h with
    | cons n t r => exact .cons ⟨_, rfl⟩ (ih r)
theorem vals_each {out : List Value} {js : List Nat} (h : PySem.W.EachIs (fun (v : Value) (j : Nat) => ∃ t, v = .int (j : Int) t) out js) : Vals (js.map fun j : Nat => V.int (j : Int)) out := by
  induction h with
  | nil => exact .nil
  | cons r _ ih =>
    obtain ⟨t, rfl⟩ := r
    exact .cons ⟨t, rfl⟩ ih
theorem sk_core {kn tn : Str} {f d ll L c : Addr} {q : Str} {l : LamT} {ts : List Int} {m : Nat} {x1 : Nat} {p1 p2 p3 p4 p5 : Pos} {Q : VK} (I : Inv X pins σ H s) (room : X.A.depth < recursionLimit) (hu : X.A.units + 64 < cLine) (lp : LamP X.env.scope l.scope kn tn)
    (hbody : l.body = .Tuple [.Subscript (.Name tn p1) (.Name kn p2) p3, .Name kn p4] x1 p5) (hbind : ∀ (q : Str) (cl : List (Str × Addr)) (pm cv ctv v : Value), bindArgs (PySem.W.kla_fn "<lambda>" q l.params l.body l.scope cl pm cv ctv) ⟨[v], []⟩ = pure [(kn, v)])
    (hf : H f = some (LamO f d q (cloFrom X.env.cells l.scope.names []) l)) (hd : H d = some (CodeO d q)) (eq : q = X.env.qual ++ "<lambda>") (hc : X.env.cells.lookup tn = some c) (hcell : s.heap.IsCell c (some (.ref L))) (hL : SqL X.K H L (ts.map V.int)) (hl : SqL X.K H ll ((List.range m).map fun j : Nat => V.int (j : Int)))
    (hm : ts.length = m) (hms : m ≤ 1000) (hdb : (tn == ("__debug__" : Str)) = false ∧ (kn == ("__debug__" : Str)) = false ∧ (tn == ("__classdict__" : Str)) = false)
    (k : ∀ (js : List Nat) (p : Addr), js.Perm (List.range m) → js.Pairwise (LtK ts) → H p = none → Q (.ref p) (upd H p (.lst (js.map fun j : Nat => V.int (j : Int))))) :
    wpAny (model X.prog X.w) X.A (call (.builtin "sorted") [.ref ll] [(Str.ofString "key", .ref f)]) (EP X pins σ Q) X.xe s := by
  obtain ⟨mm, F⟩ := I.fr
  obtain ⟨its, rv, pl, hz⟩ := I.list hl
  have isI : IntsAre its ((List.range m).map fun j : Nat => (j : Int)) := ints_of_vals (by rw [List.map_map]; exact rv)
  have len : its.length = m := by rw [IntsAre.length isI]; simp
  have kzl : ((List.range m).map (keyD ts)).length = its.length := by rw [len]; simp
  have mem : ∀ k, k ∈ (List.range m).map (keyD ts) → ∃ a b : Int, k = .tuple [.int a, .int b] := fun k hk => by
    obtain ⟨j, _, e⟩ := List.mem_map.mp hk
    exact ⟨_, _, e.symm⟩
  refine PySem.W.sorted_key_frame (b := false) (kz := (List.range m).map (keyD ts)) F news_all pl.isList kzl (by rw [len]; exact sz (by omega)) (fun k hk k' hk' => ?_) (.inl fun k hk => ?_) (fun k hk => ?_) (PyProof.Rows.ksk_s1 _ _) (fun _ => PyProof.Rows.ksk_l1 _ _) (fun _ => PyProof.Rows.ksk_t1 _ _) (fun i v kk hv hkk h tk own F' N' => ?_) (fun D h' tk out c F' N' hlt hout => ?_)
  · obtain ⟨a, b, rfl⟩ := mem k hk
    obtain ⟨a', b', rfl⟩ := mem k' hk'
    rfl
  · obtain ⟨a, b, rfl⟩ := mem k hk
    exact ⟨_, _, rfl⟩
  · obtain ⟨a, b, rfl⟩ := mem k hk
    show X.A.units + 2 + 1 < cLine
    omega
  · have hi : i < m := by
      have := (List.getElem?_eq_some_iff.mp hv).1
      omega
    obtain ⟨t, e⟩ := IntsAre.int_at isI i v hv
    have e2 : ((List.range m).map fun j : Nat => (j : Int)).getD i 0 = (i : Int) := by
      rw [List.getD_eq_getElem?_getD, List.getElem?_map, List.getElem?_range hi]
      rfl
    rw [e2] at e
    rw [List.getElem?_map, List.getElem?_range hi] at hkk
    cases hkk
    subst e
    exact key_turn I room lp hbody hbind hf hd eq hc hcell hL (by omega) (by omega) F' N' hdb
  · have each := PySem.W.keyedOut_each (keyD ts) hout (ints_range isI)
    obtain ⟨pm, pw⟩ := sorted_js (ts := ts) (m := m)
    generalize (List.range m).mergeSort (PySem.W.dataLe false (keyD ts)) = js at each pm pw
    have vs := vals_each each
    have jl : js.length = m := by rw [pm.length_eq]; simp
    obtain ⟨nD, J⟩ := led_list (tk := tk) I F F' N' hlt vs (by rw [List.length_map, jl]; exact sz (by omega))
    exact ⟨.ref D, _, J, rfl, k js D pm pw nD⟩
/-- sorted(e, key=lambda k: (xs[k], k)) -/
def tSK (T : List (Addr × Str)) (K : PySem.W.Frag) (ta : TE) (tj : Nat) : TE := fun σ H Q => ta σ H fun x H1 => ∃ (ll L : Addr) (m : Nat) (ts : List Int), x = .ref ll ∧ SqL K H1 ll ((List.range m).map fun j : Nat => V.int (j : Int)) ∧ σ[tj]? = some (some (.ref L)) ∧ SqL K H1 L (ts.map V.int) ∧
  ts.length = m ∧ m ≤ 1000 ∧ Tabs T H1 ∧ ∀ (H2 : Hp) (js : List Nat) (p : Addr), ExtN H1 H2 → Tabs T H2 → js.Perm (List.range m) → js.Pairwise (LtK ts) → H2 p = none → Q (.ref p) (upd H2 p (.lst (js.map fun j : Nat => V.int (j : Int))))
theorem pe_sortedKey {T : List (Addr × Str)} {cc P : Addr} {q kn tn : Str} {l : LamT} {tj : Nat} {x : Str} {e : Expr} {ta : TE} {x1 : Nat} {p p1 p2 p3 p4 p5 lpos pos kpos : Pos} (ha : PE X e ta) (TB : TabB X.base X.mg cc P) (hcode : X.env.code = .ref cc) (eq : q = X.env.qual ++ "<lambda>") (mem : (P, q) ∈ T)
    (hq : ∀ p ∈ T, p.1 = P → p.2 = q) (lp : LamP X.env.scope l.scope kn tn) (nodef : defaultsOf l.params X.env = ([], [])) (hbody : l.body = .Tuple [.Subscript (.Name tn p1) (.Name kn p2) p3, .Name kn p4] x1 p5) (hbind : ∀ (q : Str) (cl : List (Str × Addr)) (pm cv ctv v : Value), bindArgs (PySem.W.kla_fn "<lambda>" q l.params l.body l.scope cl pm cv ctv) ⟨[v], []⟩ = pure [(kn, v)])
    (hN : X.N[tj]? = some tn) (room : X.A.depth < recursionLimit) (hu : X.A.units + 64 < cLine) (hdb : (tn == ("__debug__" : Str)) = false ∧ (kn == ("__debug__" : Str)) = false ∧ (tn == ("__classdict__" : Str)) = false) (hg : Gl X "sorted") (hm : X.mg "sorted" = none) (hv : bootBuiltins "sorted" = some (.builtin "sorted") := by decide +kernel)
    (he : backTo pos (starEach [e] X.env) = (false, eval e X.env) :: backTo pos (starEach [] X.env) := by rfl) (hpl : (backTo pos (starEach [e] X.env)).any (·.1) = false := by rfl)
    (hst : starEach [e] X.env = (false, eval e X.env) :: starEach [] X.env := by rfl) (hall : (backToKw pos (keywordEach [⟨some (Str.ofString "key"), .Lambda l.params l.body l.scope lpos, kpos⟩] X.env)).all (·.1.isSome) = true := by rfl)
    (hnone : (backToKw pos (keywordEach [⟨some (Str.ofString "key"), .Lambda l.params l.body l.scope lpos, kpos⟩] X.env)).any (·.1.isNone) = false := by rfl) (hks : (backToKw pos (keywordEach [⟨some (Str.ofString "key"), .Lambda l.params l.body l.scope lpos, kpos⟩] X.env)).filterMap (·.1) = [Str.ofString "key"] := by rfl) :
    PE X (.Call (.Name "sorted" p) [e] [⟨some (Str.ofString "key"), .Lambda l.params l.body l.scope lpos, kpos⟩] pos) (tSK T X.K ta tj) := by
  subst eq
  refine ⟨fun pins s σ H Q I h => wpAny_Call_Name_kw (ld_blt I hg hm hv ?_ (by decide) (by decide))⟩
  refine PyProof.Rows.callWith_kw ?_ he hpl hall hnone
  have PLam := pe_lamF (X := X) (T := T) (params := l.params) (body := l.body) (scope := l.scope) (pos := lpos) TB hcode mem hq lp.free nodef
  refine thn ((pa_cons ha pa_nil hst).run pos pins s σ H (fun vs H1 => ∃ (ll L : Addr) (m : Nat) (ts : List Int), vs = [V.ref ll] ∧ SqL X.K H1 ll ((List.range m).map fun j : Nat => V.int (j : Int)) ∧ σ[tj]? = some (some (.ref L)) ∧ SqL X.K H1 L (ts.map V.int) ∧ ts.length = m ∧ m ≤ 1000 ∧ Tabs T H1 ∧
    ∀ (H2 : Hp) (js : List Nat) (p : Addr), ExtN H1 H2 → Tabs T H2 → js.Perm (List.range m) → js.Pairwise (LtK ts) → H2 p = none → Q (.ref p) (upd H2 p (.lst (js.map fun j : Nat => V.int (j : Int))))) I ?_) fun us s1 ⟨vs, H1, I1, r1, ll, L, m, ts, ev, hl, hσ, hL, htl, hms, hT, k⟩ => ?_
  · have h : ta σ H fun x H1 => ∃ (ll L : Addr) (m : Nat) (ts : List Int), x = .ref ll ∧ SqL X.K H1 ll ((List.range m).map fun j : Nat => V.int (j : Int)) ∧ σ[tj]? = some (some (.ref L)) ∧ SqL X.K H1 L (ts.map V.int) ∧ ts.length = m ∧ m ≤ 1000 ∧ Tabs T H1 ∧
      ∀ (H2 : Hp) (js : List Nat) (p : Addr), ExtN H1 H2 → Tabs T H2 → js.Perm (List.range m) → js.Pairwise (LtK ts) → H2 p = none → Q (.ref p) (upd H2 p (.lst (js.map fun j : Nat => V.int (j : Int)))) := h
    refine g_cons ?_
    have e2 : (fun (x : V) (H1 : Hp) => tNil σ H1 fun xs H2 => ∃ (ll L : Addr) (m : Nat) (ts : List Int), x :: xs = [V.ref ll] ∧ SqL X.K H2 ll ((List.range m).map fun j : Nat => V.int (j : Int)) ∧ σ[tj]? = some (some (.ref L)) ∧ SqL X.K H2 L (ts.map V.int) ∧ ts.length = m ∧ m ≤ 1000 ∧ Tabs T H2 ∧
        ∀ (H3 : Hp) (js : List Nat) (p : Addr), ExtN H2 H3 → Tabs T H3 → js.Perm (List.range m) → js.Pairwise (LtK ts) → H3 p = none → Q (.ref p) (upd H3 p (.lst (js.map fun j : Nat => V.int (j : Int))))) = fun x H1 => ∃ (ll L : Addr) (m : Nat) (ts : List Int), x = .ref ll ∧ SqL X.K H1 ll ((List.range m).map fun j : Nat => V.int (j : Int)) ∧ σ[tj]? = some (some (.ref L)) ∧ SqL X.K H1 L (ts.map V.int) ∧ ts.length = m ∧ m ≤ 1000 ∧ Tabs T H1 ∧
        ∀ (H2 : Hp) (js : List Nat) (p : Addr), ExtN H1 H2 → Tabs T H2 → js.Perm (List.range m) → js.Pairwise (LtK ts) → H2 p = none → Q (.ref p) (upd H2 p (.lst (js.map fun j : Nat => V.int (j : Int)))) := by
      funext x H1
      refine propext ⟨fun h => ?_, fun h => ?_⟩
      · have h : ∃ (ll L : Addr) (m : Nat) (ts : List Int), [x] = [V.ref ll] ∧ _ := h
        obtain ⟨ll, L, m, ts, e, r⟩ := h
        exact ⟨ll, L, m, ts, (List.cons.inj e).1, r⟩
      · obtain ⟨ll, L, m, ts, e, r⟩ := h
        exact ⟨ll, L, m, ts, by rw [e], r⟩
    rw [e2]
    exact h
  · subst ev
    have ru := Vals.ref1 r1
    subst ru
    rw [hks]
    have one := pk_cons (nm := some (Str.ofString "key")) (kpos := kpos) PLam pk_nil
    have run := one.run pos pins s1 σ H1 (fun zs H2 => ∃ (f d : Addr) (H1' : Hp), zs = [V.ref f] ∧ ExtN H1 H1' ∧ Tabs T H1' ∧ H1' f = none ∧ H1' d = some (CodeO d (X.env.qual ++ "<lambda>")) ∧ H2 = upd H1' f (LamO f d (X.env.qual ++ "<lambda>") (cloFrom X.env.cells l.scope.names []) l)) I1 (g_cons ⟨hT, fun f d H1' e1 e2 e3 e4 => g_nil ⟨f, d, H1', rfl, e1, e2, e3, e4, rfl⟩⟩)
    refine thn run fun ws s2 ⟨zs, H2, I2, r2, f, d, H1', ez, e1, e2, e3, e4, eH⟩ => ?_
    subst ez
    subst eH
    have rw2 := Vals.ref1 r2
    subst rw2
    have s3 : Same H1' (upd H1' f (LamO f d (X.env.qual ++ "<lambda>") (cloFrom X.env.cells l.scope.names []) l)) := Same.new e3
    have eN : ExtN H1 (upd H1' f (LamO f d (X.env.qual ++ "<lambda>") (cloFrom X.env.cells l.scope.names []) l)) := e1.trans (extN_same s3)
    have seq : ∀ {p xs}, SqL X.K H1 p xs → SqL X.K (upd H1' f (LamO f d (X.env.qual ++ "<lambda>") (cloFrom X.env.cells l.scope.names []) l)) p xs := fun {p xs} h => by
      rcases h with (h | ⟨u, h⟩) | h
      · exact .inl (.inl (eN _ _ h (fun _ z => by cases z)))
      · exact .inl (.inr ⟨u, eN _ _ h (fun _ z => by cases z)⟩)
      · exact .inr h
    obtain ⟨mm, _, hloc⟩ := I2.loc
    have ft := lp.free _ (PySem.mem_of_lookup lp.t) rfl
    obtain ⟨u, ru, q⟩ := hloc tj tn _ hN hσ (ft.elim (fun z => .inr (.inl z)) (fun z => .inr (.inr z)))
    obtain rfl : u = Value.ref L := ru
    obtain ⟨c, hc, hcell⟩ : ∃ c, X.env.cells.lookup tn = some c ∧ s2.heap.IsCell c (some (.ref L)) := by
      rcases q with ⟨z, _⟩ | ⟨_, c, z1, z2⟩
      · have z : X.env.scope.names.lookup tn = some .local := z
        rcases ft with ft | ft <;> rw [show X.env.scope.names.lookup tn = _ from ft] at z <;> cases z
      · exact ⟨c, z1, z2⟩
    exact sk_core I2 room hu lp hbody hbind upd_same (s3 _ _ e4) rfl hc hcell (seq hL) (seq hl) htl hms hdb fun js p j1 j2 j3 => k _ js p eN (tabs_same e2 s3) j1 j2 j3
theorem pe_sortedKeyS {T : List (Addr × Str)} {cc P : Addr} {q kn tn : Str} {params : Arguments} {body : Expr} {scope : Scope} {tj : Nat} {e : Expr} {ta : TE} {x1 : Nat} {p p1 p2 p3 p4 p5 lpos pos kpos : Pos} (ha : PE X e ta) (TB : TabB X.base X.mg cc P) (hcode : X.env.code = .ref cc) (eq : q = X.env.qual ++ "<lambda>") (mem : (P, q) ∈ T)
    (hq : ∀ p ∈ T, p.1 = P → p.2 = q) (lp : LamP X.env.scope scope kn tn) (nodef : defaultsOf params X.env = ([], [])) (hbody : body = .Tuple [.Subscript (.Name tn p1) (.Name kn p2) p3, .Name kn p4] x1 p5) (hbind : ∀ (q : Str) (cl : List (Str × Addr)) (pm cv ctv v : Value), bindArgs (PySem.W.kla_fn "<lambda>" q params body scope cl pm cv ctv) ⟨[v], []⟩ = pure [(kn, v)])
    (hN : X.N[tj]? = some tn) (room : X.A.depth < recursionLimit) (hu : X.A.units + 64 < cLine) (hdb : (tn == ("__debug__" : Str)) = false ∧ (kn == ("__debug__" : Str)) = false ∧ (tn == ("__classdict__" : Str)) = false) (hg : Gl X "sorted") (hm : X.mg "sorted" = none)
    (he : backTo pos (starEach [e] X.env) = (false, eval e X.env) :: backTo pos (starEach [] X.env) := by rfl) (hpl : (backTo pos (starEach [e] X.env)).any (·.1) = false := by rfl)
    (hst : starEach [e] X.env = (false, eval e X.env) :: starEach [] X.env := by rfl) (hall : (backToKw pos (keywordEach [⟨some (Str.ofString "key"), .Lambda params body scope lpos, kpos⟩] X.env)).all (·.1.isSome) = true := by rfl)
    (hnone : (backToKw pos (keywordEach [⟨some (Str.ofString "key"), .Lambda params body scope lpos, kpos⟩] X.env)).any (·.1.isNone) = false := by rfl) (hks : (backToKw pos (keywordEach [⟨some (Str.ofString "key"), .Lambda params body scope lpos, kpos⟩] X.env)).filterMap (·.1) = [Str.ofString "key"] := by rfl) :
    PE X (.Call (.Name "sorted" p) [e] [⟨some (Str.ofString "key"), .Lambda params body scope lpos, kpos⟩] pos) (tSK T X.K ta tj) :=
  pe_sortedKey (l := ⟨params, body, scope⟩) (x := "sorted") ha TB hcode eq mem hq lp nodef hbody hbind hN room hu hdb hg hm (by decide +kernel) he hpl hst hall hnone hks
end
end My
namespace My
open PySem PySem.Spec PyProof.Rows L2
/-! ### promises: order, rings -/
def far (n i j : Int) : Int := (j - i) % n
def ordS (n i j : Int) : Str := if 2 * far n i j = 0 then "same" else if 2 * far n i j = n then "opposite" else if 2 * far n i j < n then "ahead" else "behind"
def sp_order_of : Sp := fun vs H Q _ => ∃ n i j : Int, vs = [.int n, .int i, .int j] ∧ Wh n ∧ Q (.str (ordS n i j)) H
/-- i is ahead of j -/
abbrev Ah (n i j : Int) : Prop := 0 < far n i j ∧ 2 * far n i j < n
theorem ordS_ahead {n i j : Int} (h : Wh n) : (ordS n i j = "ahead") ↔ Ah n i j := by
  have hn : 0 < n := by have := h.1; omega
  have h0 : 0 ≤ far n i j := Int.emod_nonneg _ (by omega)
  unfold ordS
  by_cases a : 2 * far n i j = 0
  · rw [if_pos a]
    exact ⟨fun z => absurd z (by decide), fun z => by have := z.1; omega⟩
  · rw [if_neg a]
    by_cases b : 2 * far n i j = n
    · rw [if_pos b]
      exact ⟨fun z => absurd z (by decide), fun z => by have := z.2; omega⟩
    · rw [if_neg b]
      by_cases c : 2 * far n i j < n
      · rw [if_pos c]
        exact ⟨fun _ => ⟨by omega, c⟩, fun _ => rfl⟩
      · rw [if_neg c]
        exact ⟨fun z => absurd z (by decide), fun z => absurd z.2 c⟩
theorem ordS_ok (n i j : Int) : PyData.strOk (ordS n i j) = true := by
  unfold ordS
  split
  · decide +kernel
  · split
    · decide +kernel
    · split <;> decide +kernel
def RowOk (n : Int) (ns : List Int) : Prop := ns.length ≤ 60 ∧ ∀ x ∈ ns, Se n x
def sp_need_row (K : PySem.W.Frag) (ec : Ec) : Sp := fun vs H Q E => ∃ (n : Int) (a : Addr) (ns : List Int), vs = [.int n, .ref a] ∧ SqL K H a (ns.map V.int) ∧ (RowOk n ns → Q .non H) ∧ (¬ RowOk n ns → E (.ref ec.BadSeen) none H)
def Rg (n i j k : Int) : Prop := Ah n i j ∧ Ah n j k ∧ Ah n k i
instance {n i j k : Int} : Decidable (Rg n i j k) := inferInstanceAs (Decidable (_ ∧ _ ∧ _))
def sp_goes_round : Sp := fun vs H Q _ => ∃ n i j k : Int, vs = [.int n, .int i, .int j, .int k] ∧ Wh n ∧ ∀ H', Same H H' → Q (.bl (decide (Rg n i j k))) H'
/-- the place with the number m, three places below L -/
def rgAt (n : Int) (ns : List Int) (m : Nat) : Prop := Rg n (ns.getD (m / (ns.length * ns.length)) 0) (ns.getD (m / ns.length % ns.length) 0) (ns.getD (m % ns.length) 0)
def threeV (L m : Nat) : List V := [.int ((m / (L * L) : Nat) : Int), .int ((m / L % L : Nat) : Int), .int ((m % L : Nat) : Int)]
def FirstR (n : Int) (ns : List Int) (m : Nat) : Prop := m < ns.length * ns.length * ns.length ∧ rgAt n ns m ∧ ∀ m' < m, ¬ rgAt n ns m'
def NoR (n : Int) (ns : List Int) : Prop := ∀ m < ns.length * ns.length * ns.length, ¬ rgAt n ns m
def sp_ring (K : PySem.W.Frag) (ec : Ec) : Sp := fun vs H Q E => ∃ (n : Int) (a : Addr) (ns : List Int), vs = [.int n, .ref a] ∧ SqL K H a (ns.map V.int) ∧
  (Wh n → RowOk n ns → ∀ m, FirstR n ns m → ∀ p H', Same H H' → H p = none → H' p = some (.tup (threeV ns.length m)) → Q (.ref p) H') ∧ (Wh n → RowOk n ns → NoR n ns → ∀ H', Same H H' → Q .non H') ∧
  (¬ Wh n → E (.ref ec.BadWheel) none H) ∧ (Wh n → ¬ RowOk n ns → E (.ref ec.BadSeen) none H)
theorem three_div {L i j k : Nat} (hj : j < L) (hk : k < L) : ((i * L + j) * L + k) / (L * L) = i ∧ ((i * L + j) * L + k) / L % L = j ∧ ((i * L + j) * L + k) % L = k := by
  have hL : 0 < L := by omega
  have h1 : ((i * L + j) * L + k) / L = i * L + j := by
    rw [Nat.mul_comm, Nat.mul_add_div hL, Nat.div_eq_of_lt hk, Nat.add_zero]
  refine ⟨?_, ?_, ?_⟩
  · rw [← Nat.div_div_eq_div_mul, h1, Nat.mul_comm, Nat.mul_add_div hL, Nat.div_eq_of_lt hj, Nat.add_zero]
  · rw [h1, Nat.mul_comm, Nat.mul_add_mod, Nat.mod_eq_of_lt hj]
  · rw [Nat.mul_comm, Nat.mul_add_mod, Nat.mod_eq_of_lt hk]
end My
namespace My
open PySem PySem.Spec PyProof.Rows L2
def sp_since (ec : Ec) : Sp := fun vs H Q E => ∃ n i j : Int, vs = [.int n, .int i, .int j] ∧ (Wh n → Se n i → Se n j → Q (.int ((j - i) % n)) H) ∧ (¬ Wh n → E (.ref ec.BadWheel) none H) ∧ (Wh n → ¬ (Se n i ∧ Se n j) → E (.ref ec.BadSeen) none H)
def sp_order (ec : Ec) : Sp := fun vs H Q E => ∃ n i j : Int, vs = [.int n, .int i, .int j] ∧ (Wh n → Se n i → Se n j → Q (.str (ordS n i j)) H) ∧ (¬ Wh n → E (.ref ec.BadWheel) none H) ∧ (Wh n → ¬ (Se n i ∧ Se n j) → E (.ref ec.BadSeen) none H)
end My
namespace My
open PySem PySem.Spec PyProof.Rows L2
theorem blkOk_by2 {N : List Str} {env : Env} {sc sc1 sc2 : Scope} {own : List (Str × Nat)} {cl : List (Str × Addr)} {C : Addr} (hsc : env.scope = sc) (h : blkC N (relS sc1 sc) sc2 own = true) : BlkOk N (compEnvC sc1 cl C env).scope sc2 own := by
  subst hsc
  exact blkOk_by h
/-! ### promises: an order within a span -/
/-- all are within the span from b on -/
def Bg (n sp : Int) (ns : List Int) (b : Int) : Prop := b ∈ ns ∧ ∀ x ∈ ns, far n b x ≤ sp
def LtP (n b : Int) (ns : List Int) (i j : Nat) : Prop := far n b (ns.getD i 0) < far n b (ns.getD j 0) ∨ (far n b (ns.getD i 0) = far n b (ns.getD j 0) ∧ i < j)
/-- the places, by how far they are from b -/
def Ordered (n b : Int) (ns : List Int) (js : List Nat) : Prop := js.Perm (List.range ns.length) ∧ js.Pairwise (LtP n b ns)
def natsV (js : List Nat) : List V := js.map fun j : Nat => V.int (j : Int)
def sp_arranged (K : PySem.W.Frag) (ec : Ec) : Sp := fun vs H Q E => ∃ (n sp : Int) (a : Addr) (ns : List Int), vs = [.int n, .int sp, .ref a] ∧ SqL K H a (ns.map V.int) ∧
  (Wh n → Se n sp → RowOk n ns → ns = [] → ∀ p H', H p = none → Same H H' → H' p = some (.lst []) → Q (.ref p) H') ∧
  (Wh n → Se n sp → RowOk n ns → ∀ b b', Bg n sp ns b → Bg n sp ns b' → b ≠ b' → ∀ H', Same H H' → Q .non H') ∧
  (Wh n → Se n sp → RowOk n ns → ∀ b js, Bg n sp ns b → (∀ b', Bg n sp ns b' → b' = b) → Ordered n b ns js → ∀ p H', H p = none → Same H H' → H' p = some (.lst (natsV js)) → Q (.ref p) H') ∧
  (¬ Wh n → E (.ref ec.BadWheel) none H) ∧ (Wh n → ¬ Se n sp → E (.ref ec.BadSpan) none H) ∧ (Wh n → Se n sp → ¬ RowOk n ns → E (.ref ec.BadSeen) none H) ∧
  (Wh n → Se n sp → RowOk n ns → ns ≠ [] → (∀ b, ¬ Bg n sp ns b) → ∀ H', Same H H' → E (.ref ec.NoSpan) none H')
end My
namespace My
open PySem PySem.Spec PyProof.Rows L2
/-- times, and what a wheel shows of them -/
def sp_lseen (K : PySem.W.Frag) : Sp := fun vs H Q _ => ∃ (a s : Addr) (n m : Int), vs = [.ref a, .int n, .int m] ∧ Dr K a s H ∧ Wh n ∧ 0 ≤ m ∧ m ≤ 100 ∧ ∀ p L1 L2 (ts : List Int) H', (ts.length : Int) ≤ m + 1 → H L1 = none → H L2 = none → L1 ≠ L2 → H' p = some (.tup [.ref L1, .ref L2]) →
  H' L1 = some (.lst (ts.map V.int)) → H' L2 = some (.lst ((ts.map (· % n)).map V.int)) → Go K a s H H' → Q (.ref p) H'
end My
namespace My
open PySem PySem.Spec PyProof.Rows L2
/-- a number beyond -/
def sp_far (K : PySem.W.Frag) : Sp := fun vs H Q _ => ∃ (a s : Addr) (l m : Int), vs = [.ref a, .int l, .int m] ∧ Dr K a s H ∧ ∀ z H', z < l ∨ m < z → Go K a s H H' → Q (.int z) H'
end My
namespace My
open PySem PySem.Spec PyProof.Rows L2
def top (i : Nat) : Stmt := PySem.Challenge.pw_wraptime_k08_orders_within_a_span.main.body.getD i (.Pass ⟨0, 0, 0, 0⟩)
abbrev s_is_wheel : Stmt := top 12
abbrev s_need_wheel : Stmt := top 13
abbrev s_need_seen : Stmt := top 14
abbrev s_since_of : Stmt := top 15
abbrev s_order_of : Stmt := top 16
abbrev s_need_row : Stmt := top 19
abbrev s_arranged : Stmt := top 20
abbrev s_goes_round : Stmt := top 21
abbrev s_ring : Stmt := top 22
abbrev s__law_start : Stmt := top 24
abbrev s__law_drawn : Stmt := top 25
abbrev s__law_same : Stmt := top 26
abbrev s__law_kind : Stmt := top 27
abbrev s__law_far : Stmt := top 28
abbrev s__law_wheel : Stmt := top 29
abbrev s__law_rule : Stmt := top 30
abbrev s__law_time : Stmt := top 31
abbrev s__law_shown : Stmt := top 32
abbrev s__law_seen : Stmt := top 33
abbrev s__law_due : Stmt := top 34
abbrev s_law : Stmt := top 35
structure Txt (K : PySem.W.Frag) (mg : Str → Option Value) (ec : Ec) : Prop where
  g_MOST_WHEEL : ∃ t, mg "MOST_WHEEL" = some (.int 1000000000000 t)
  g_MOST_SEEN : ∃ t, mg "MOST_SEEN" = some (.int 60 t)
  ValueError : mg "ValueError" = none
  range : mg "range" = none
  isinstance : mg "isinstance" = none
  str : mg "str" = none
  len : mg "len" = none
  tuple : mg "tuple" = none
  list : mg "list" = none
  bool : mg "bool" = none
  int : mg "int" = none
  sorted : mg "sorted" = none
  max : mg "max" = none
  set : mg "set" = none
  min : mg "min" = none
  x_BadWheel : ExcAt K mg "BadWheel" ec.BadWheel
  x_BadRule : ExcAt K mg "BadRule" ec.BadRule
  x_BadSeen : ExcAt K mg "BadSeen" ec.BadSeen
  x_BadGaps : ExcAt K mg "BadGaps" ec.BadGaps
  x_BadSpan : ExcAt K mg "BadSpan" ec.BadSpan
  x_BadLong : ExcAt K mg "BadLong" ec.BadLong
  x_NoGap : ExcAt K mg "NoGap" ec.NoGap
  x_NoSpan : ExcAt K mg "NoSpan" ec.NoSpan
  x_WrapError : ExcAt K mg "WrapError" ec.WrapError
  q_BadSpan : KindOf K ec ec.BadSpan 4
  q_BadSeen : KindOf K ec ec.BadSeen 2
  q_NoSpan : KindOf K ec ec.NoSpan 7

section
variable {P : Program} {w : World} {K : PySem.W.Frag} {mg : Str → Option Value} {base : Heap} {ec : Ec}
theorem sc_is_wheel : FnScope ["wheel"] ["wheel"] (defScope s_is_wheel) := ⟨rfl, rfl, rfl, by decide +kernel, rfl, by decide +kernel, by decide +kernel⟩
theorem ok_is_wheel (T : Txt K mg ec) (D : Fn K mg "is_wheel" s_is_wheel) : Knows P w K mg base 1 "is_wheel" ["wheel"] sp_is_wheel := by
  refine Knows.mk' D sc_is_wheel (fun _ _ _ _ _ _ us hl => match us, hl with | [_], _ => rfl) (fun vs H Q E h => ?_) (fun f cdv A outer s H vs Q E hr h => ?_)
  · obtain ⟨n, rfl, _⟩ := h; rfl
  · obtain ⟨n, rfl, k⟩ := h
    refine ⟨_, (pss_one (ps_ret (pe_chain op_le op_le pe_int (pv 0) (pe_gl T.g_MOST_WHEEL)))), ?_⟩
    refine g_start (σ := [some _]) rfl ?_
    try dsimp only [cxOf]
    walk_at "go"
    refine ite_dec (fun h1 => ?_) (fun h1 => ?_)
    · walk_at "go"
      rw [show decide (Wh n) = decide (n ≤ 1000000000000) from decide_eq_decide.mpr ⟨fun h => h.2, fun h => ⟨h1, h⟩⟩] at k
      exact k
    · rw [show decide (Wh n) = false from decide_eq_false fun h => h1 h.1] at k
      exact k
theorem sc_need_wheel : FnScope ["wheel"] ["wheel"] (defScope s_need_wheel) := ⟨rfl, rfl, rfl, by decide +kernel, rfl, by decide +kernel, by decide +kernel⟩
theorem ok_need_wheel (T : Txt K mg ec) (D : Fn K mg "need_wheel" s_need_wheel) (c_is_wheel : Knows P w K mg base 1 "is_wheel" ["wheel"] sp_is_wheel) : Knows P w K mg base 2 "need_wheel" ["wheel"] (sp_need_wheel ec) := by
  refine Knows.mk' D sc_need_wheel (fun _ _ _ _ _ _ us hl => match us, hl with | [_], _ => rfl) (fun vs H Q E h => ?_) (fun f cdv A outer s H vs Q E hr h => ?_)
  · obtain ⟨n, rfl, _⟩ := h; rfl
  · obtain ⟨n, rfl, k1, k2⟩ := h
    refine ⟨_, (pss_one (ps_if (pt_not (pt_val (pe_callN c_is_wheel (hr.mono (by first | decide | omega)) passD (pa_cons (pv 0) pa_nil)) (by intro _; rfl))) (pss_one (ps_raiseN T.x_BadWheel)) pss_nil)), ?_⟩
    refine g_start (σ := [some _]) rfl ?_
    try dsimp only [cxOf]
    walk_at "go"
    refine ⟨n, rfl, ?_⟩
    walk_at "go"
    refine ite_ndec (fun h1 => ?_) (fun h1 => ?_)
    · exact k2 h1
    · walk_at "go"
      exact k1 h1
theorem sc_need_seen : FnScope ["wheel", "seen"] ["wheel", "seen"] (defScope s_need_seen) := ⟨rfl, rfl, rfl, by decide +kernel, rfl, by decide +kernel, by decide +kernel⟩
theorem ok_need_seen (T : Txt K mg ec) (D : Fn K mg "need_seen" s_need_seen) : Knows P w K mg base 1 "need_seen" ["wheel", "seen"] (sp_need_seen ec) := by
  refine Knows.mk' D sc_need_seen (fun _ _ _ _ _ _ us hl => match us, hl with | [_, _], _ => rfl) (fun vs H Q E h => ?_) (fun f cdv A outer s H vs Q E hr h => ?_)
  · obtain ⟨n, i, rfl, _⟩ := h; rfl
  · obtain ⟨n, i, rfl, k1, k2⟩ := h
    refine ⟨_, (pss_one (ps_if (pt_not (pt_chain op_le op_lt pe_int (pv 1) (pv 0))) (pss_one (ps_raiseN T.x_BadSeen)) pss_nil)), ?_⟩
    refine g_start (σ := [some _, some _]) rfl ?_
    try dsimp only [cxOf]
    walk_at "go"
    refine ite_dec (fun h1 => ?_) (fun h1 => ?_)
    · walk_at "go"
      refine ite_ndec (fun h2 => ?_) (fun h2 => ?_)
      · exact k2 fun h => h2 h.2
      · walk_at "go"
        exact k1 ⟨h1, h2⟩
    · walk_at "go"
      exact k2 fun h => h1 h.1
theorem sc_since_of : FnScope ["wheel", "one", "other"] ["wheel", "one", "other"] (defScope s_since_of) := ⟨rfl, rfl, rfl, by decide +kernel, rfl, by decide +kernel, by decide +kernel⟩
theorem ok_since_of (T : Txt K mg ec) (D : Fn K mg "since_of" s_since_of) : Knows P w K mg base 1 "since_of" ["wheel", "one", "other"] sp_since_of := by
  refine Knows.mk' D sc_since_of (fun _ _ _ _ _ _ us hl => match us, hl with | [_, _, _], _ => rfl) (fun vs H Q E h => ?_) (fun f cdv A outer s H vs Q E hr h => ?_)
  · obtain ⟨n, i, j, rfl, _⟩ := h; rfl
  · obtain ⟨n, i, j, rfl, h0, k⟩ := h
    refine ⟨_, (pss_one (ps_ret (pe_op op_mod (pe_op op_sub (pv 2) (pv 1)) (pv 0)))), ?_⟩
    refine g_start (σ := [some _, some _, some _]) rfl ?_
    try dsimp only [cxOf]
    walk_at "go"
    exact k
end
end My
namespace My
open PySem PySem.Spec PyProof.Rows L2
section
variable {P : Program} {w : World} {K : PySem.W.Frag} {mg : Str → Option Value} {base : Heap} {ec : Ec}
theorem sc_order_of : FnScope ["wheel", "one", "other", "far"] ["wheel", "one", "other"] (defScope s_order_of) := ⟨rfl, rfl, rfl, by decide +kernel, rfl, by decide +kernel, by decide +kernel⟩
theorem ok_order_of (T : Txt K mg ec) (D : Fn K mg "order_of" s_order_of) (c_since_of : Knows P w K mg base 1 "since_of" ["wheel", "one", "other"] sp_since_of) : Knows P w K mg base 2 "order_of" ["wheel", "one", "other"] sp_order_of := by
  refine Knows.mk' D sc_order_of (fun _ _ _ _ _ _ us hl => match us, hl with | [_, _, _], _ => rfl) (fun vs H Q E h => ?_) (fun f cdv A outer s H vs Q E hr h => ?_)
  · obtain ⟨n, i, j, rfl, _⟩ := h; rfl
  · obtain ⟨n, i, j, rfl, hw, k⟩ := h
    have hn : 0 < n := by have := hw.1; omega
    refine ⟨_, (pss_cons (ps_set (i := 3) sc_order_of.nd rfl (Or.inl rfl) (pe_op op_mul pe_int (pe_callN c_since_of (hr.mono (by first | decide | omega)) passD (pa_cons (pv 0) (pa_cons (pv 1) (pa_cons (pv 2) pa_nil))))))
    (pss_cons (ps_if (pt_cmpR op_eq (pv 3) pe_int (nomark _)) (pss_one (ps_ret pe_str)) pss_nil)
    (pss_cons (ps_if (pt_cmpR op_eq (pv 3) (pv 0) (nomark _)) (pss_one (ps_ret pe_str)) pss_nil)
    (pss_one (ps_ret (pe_ifExp (pt_cmpR op_lt (pv 3) (pv 0) (nomark _)) pe_str pe_str)))))), ?_⟩
    refine g_start (σ := [some _, some _, some _, none]) rfl ?_
    try dsimp only [cxOf]
    walk_at "go"
    refine ⟨n, i, j, rfl, hn, ?_⟩
    walk_at "go"
    have h0 : 0 ≤ (j - i) % n := Int.emod_nonneg _ (by omega)
    unfold ordS far at k
    refine ite_dec (fun h1 => ?_) (fun h1 => ?_)
    · walk_at "go"
      rw [if_pos (V.int.inj h1)] at k
      exact k
    · rw [if_neg (fun z => h1 (congrArg V.int z))] at k
      walk_at "go"
      refine ite_dec (fun h2 => ?_) (fun h2 => ?_)
      · walk_at "go"
        rw [if_pos (V.int.inj h2)] at k
        exact k
      · rw [if_neg (fun z => h2 (congrArg V.int z))] at k
        walk_at "go"
        refine ite_dec (fun h3 => ?_) (fun h3 => ?_)
        · walk_at "go"
          rw [if_pos h3] at k
          exact k
        · walk_at "go"
          rw [if_neg h3] at k
          exact k
theorem sc_need_row : FnScope ["wheel", "seen", "one"] ["wheel", "seen"] (defScope s_need_row) := ⟨rfl, rfl, rfl, by decide +kernel, rfl, by decide +kernel, by decide +kernel⟩
theorem ok_need_row (T : Txt K mg ec) (D : Fn K mg "need_row" s_need_row) (c_need_seen : Knows P w K mg base 1 "need_seen" ["wheel", "seen"] (sp_need_seen ec)) : Knows P w K mg base 2 "need_row" ["wheel", "seen"] (sp_need_row K ec) := by
  refine Knows.mk' D sc_need_row (fun _ _ _ _ _ _ us hl => match us, hl with | [_, _], _ => rfl) (fun vs H Q E h => ?_) (fun f cdv A outer s H vs Q E hr h => ?_)
  · obtain ⟨n, a, ns, rfl, _⟩ := h; rfl
  · obtain ⟨n, a, ns, rfl, hS, k1, k2⟩ := h
    refine ⟨_, (pss_cons (ps_if (pt_cmpR op_gt (pe_callB call_lenN (by rfl) T.len PySem.boot_len (pa_cons (pv 1) pa_nil)) (pe_gl T.g_MOST_SEEN) (nomark _)) (pss_one (ps_raiseN T.x_BadSeen)) pss_nil)
    (pss_one (ps_for passO rfl (pi_list (pv 1)) (pg_name (i := 2) sc_need_row.nd rfl (Or.inl rfl)) (pss_one (ps_expr (pe_callN c_need_seen (hr.mono (by first | decide | omega)) passD (pa_cons (pv 0) (pa_cons (pv 2) pa_nil)))))))), ?_⟩
    refine g_start (σ := [some _, some _, none]) rfl ?_
    try dsimp only [cxOf]
    walk_at "go"
    refine g_lenL hS ?_
    walk_at "go"
    rw [List.length_map]
    refine ite_dec (fun h1 => ?_) (fun h1 => ?_)
    · exact k2 fun z => by have := z.1; omega
    · walk_at "go"
      refine ⟨⟨_, hS⟩, for_L (K := K) (a := a) (xs := ns.map V.int) (fun i σ H' => H' = H ∧ (∃ v, σ = [some (.int n), some (.ref a), v]) ∧ ∀ j x, j < i → ns[j]? = some x → Se n x) ⟨rfl, ⟨_, rfl⟩, fun j x h => absurd h (Nat.not_lt_zero _)⟩ (fun i σ H' _ h => h.1 ▸ hS) ?_ ?_⟩
      · rintro i y σ H' hi ⟨rfl, ⟨v, rfl⟩, hno⟩
        obtain ⟨x, rfl, hx⟩ := int_at hi
        walk_at "go"
        refine ⟨n, x, rfl, fun hs => ?_, fun hs => k2 fun z => hs (z.2 x (List.mem_of_getElem? hx))⟩
        walk_at "go"
        refine ⟨rfl, ⟨_, rfl⟩, fun j z hj hz => ?_⟩
        by_cases hji : j = i
        · subst hji
          rw [hx] at hz
          cases hz
          exact hs
        · exact hno j z (by omega) hz
      · rintro σ H' ⟨rfl, ⟨v, rfl⟩, hno⟩
        walk_at "go"
        refine k1 ⟨by omega, fun x hx => ?_⟩
        obtain ⟨j, hj⟩ := List.getElem?_of_mem hx
        exact hno j x (by rw [List.length_map]; exact (List.getElem?_eq_some_iff.mp hj).1) hj
theorem sc_goes_round : FnScope ["wheel", "one", "other", "last", "words"] ["wheel", "one", "other", "last"] (defScope s_goes_round) := ⟨rfl, rfl, rfl, by decide +kernel, rfl, by decide +kernel, by decide +kernel⟩
theorem ok_goes_round (T : Txt K mg ec) (D : Fn K mg "goes_round" s_goes_round) (c_order_of : Knows P w K mg base 2 "order_of" ["wheel", "one", "other"] sp_order_of) : Knows P w K mg base 3 "goes_round" ["wheel", "one", "other", "last"] sp_goes_round := by
  refine Knows.mk' D sc_goes_round (fun _ _ _ _ _ _ us hl => match us, hl with | [_, _, _, _], _ => rfl) (fun vs H Q E h => ?_) (fun f cdv A outer s H vs Q E hr h => ?_)
  · obtain ⟨n, i, j, l, rfl, _⟩ := h; rfl
  · obtain ⟨n, i, j, l, rfl, hw, k⟩ := h
    refine ⟨_, (pss_cons (ps_set (i := 4) sc_goes_round.nd rfl (Or.inl rfl) (pe_lst (pa_cons (pe_callN c_order_of (hr.mono (by first | decide | omega)) passD (pa_cons (pv 0) (pa_cons (pv 1) (pa_cons (pv 2) pa_nil)))) (pa_cons (pe_callN c_order_of (hr.mono (by first | decide | omega)) passD (pa_cons (pv 0) (pa_cons (pv 2) (pa_cons (pv 3) pa_nil)))) (pa_cons (pe_callN c_order_of (hr.mono (by first | decide | omega)) passD (pa_cons (pv 0) (pa_cons (pv 3) (pa_cons (pv 1) pa_nil)))) pa_nil)))))
    (pss_one (ps_ret (pe_cmpR (op_eqD hr.units) (pv 4) (pe_lst (pa_cons pe_str (pa_cons pe_str (pa_cons pe_str pa_nil)))) (nomark _))))), ?_⟩
    refine g_start (σ := [some _, some _, some _, some _, none]) rfl ?_
    try dsimp only [cxOf]
    walk_at "go"
    refine ⟨n, i, j, rfl, hw, ?_⟩
    walk_at "go"
    refine ⟨n, j, l, rfl, hw, ?_⟩
    walk_at "go"
    refine ⟨n, l, i, rfl, hw, ?_⟩
    walk_at "go"
    intro p hp
    walk_at "go"
    intro q hq
    refine g_eqStrs (ns := [ordS n i j, ordS n j l, ordS n l i]) (ms := ["ahead", "ahead", "ahead"]) (SqL.of (by walk_at "hp")) (SqL.of upd_same) (by simp only [List.all_cons, ordS_ok, List.all_nil]; rfl) (by decide +kernel) ?_
    have e : decide ([ordS n i j, ordS n j l, ordS n l i] = (["ahead", "ahead", "ahead"] : List Str)) = decide (Rg n i j l) := by
      refine decide_eq_decide.mpr ?_
      unfold Rg
      rw [← ordS_ahead hw, ← ordS_ahead hw, ← ordS_ahead hw]
      simp
    rw [e]
    exact k _ ((Same.new hp).trans (Same.new hq))
theorem sc_ring : FnScope ["wheel", "seen", "one", "other", "last"] ["wheel", "seen"] (defScope s_ring) := ⟨rfl, rfl, rfl, by decide +kernel, rfl, by decide +kernel, by decide +kernel⟩
theorem ok_ring (T : Txt K mg ec) (D : Fn K mg "ring" s_ring) (c_need_wheel : Knows P w K mg base 2 "need_wheel" ["wheel"] (sp_need_wheel ec)) (c_need_row : Knows P w K mg base 2 "need_row" ["wheel", "seen"] (sp_need_row K ec))
    (c_goes_round : Knows P w K mg base 3 "goes_round" ["wheel", "one", "other", "last"] sp_goes_round) : Knows P w K mg base 4 "ring" ["wheel", "seen"] (sp_ring K ec) := by
  refine Knows.mk' D sc_ring (fun _ _ _ _ _ _ us hl => match us, hl with | [_, _], _ => rfl) (fun vs H Q E h => ?_) (fun f cdv A outer s H vs Q E hr h => ?_)
  · obtain ⟨n, a, ns, rfl, _⟩ := h; rfl
  · obtain ⟨n, a, ns, rfl, hS, k1, k2, k3, k4⟩ := h
    refine ⟨_, (pss_cons (ps_expr (pe_callN c_need_wheel (hr.mono (by first | decide | omega)) passD (pa_cons (pv 0) pa_nil)))
    (pss_cons (ps_expr (pe_callN c_need_row (hr.mono (by first | decide | omega)) passD (pa_cons (pv 0) (pa_cons (pv 1) pa_nil))))
    (pss_cons (ps_for passO rfl (pi_range1 (by rfl) T.range (pa_cons (pe_callB call_lenN (by rfl) T.len PySem.boot_len (pa_cons (pv 1) pa_nil)) pa_nil)) (pg_name (i := 2) sc_ring.nd rfl (Or.inl rfl)) (pss_one (ps_for passO rfl (pi_range1 (by rfl) T.range (pa_cons (pe_callB call_lenN (by rfl) T.len PySem.boot_len (pa_cons (pv 1) pa_nil)) pa_nil)) (pg_name (i := 3) sc_ring.nd rfl (Or.inl rfl)) (pss_one (ps_for passO rfl (pi_range1 (by rfl) T.range (pa_cons (pe_callB call_lenN (by rfl) T.len PySem.boot_len (pa_cons (pv 1) pa_nil)) pa_nil)) (pg_name (i := 4) sc_ring.nd rfl (Or.inl rfl)) (pss_one (ps_if (pt_val (pe_callN c_goes_round (hr.mono (by first | decide | omega)) passD (pa_cons (pv 0) (pa_cons (pe_ix ix_list (pv 1) (pv 2) (fun _ _ => rfl)) (pa_cons (pe_ix ix_list (pv 1) (pv 3) (fun _ _ => rfl)) (pa_cons (pe_ix ix_list (pv 1) (pv 4) (fun _ _ => rfl)) pa_nil))))) (by intro _; rfl)) (pss_one (ps_ret (pe_tup (pa_cons (pv 2) (pa_cons (pv 3) (pa_cons (pv 4) pa_nil)))))) pss_nil)))))))
    (pss_one (ps_ret pe_non))))), ?_⟩
    refine g_start (σ := [some _, some _, none, none, none]) rfl ?_
    try dsimp only [cxOf]
    walk_at "go"
    refine ⟨n, rfl, fun hw => ?_, k3⟩
    walk_at "go"
    refine ⟨n, a, ns, rfl, hS, fun hrow => ?_, k4 hw⟩
    have hlen := hrow.1
    walk_at "go"
    refine g_lenL hS ?_
    walk_at "go"
    rw [List.length_map]
    have atj : ∀ j : Nat, j < ns.length → atI (ns.map V.int) (0 + (j : Int)) = some (.int (ns.getD j 0)) := fun j hj => by
      rw [Int.zero_add]
      refine atI_nat ?_
      rw [List.getElem?_map, List.getElem?_eq_getElem hj, List.getD_eq_getElem?_getD, List.getElem?_eq_getElem hj]
      rfl
    refine ⟨by omega, by omega, for_R (fun i σ H' => Same H H' ∧ (∃ v2 v3 v4, σ = [some (.int n), some (.ref a), v2, v3, v4]) ∧ ∀ m, m < i * ns.length * ns.length → ¬ rgAt n ns m) ⟨Same.refl _, ⟨_, _, _, rfl⟩, fun m h => by simp at h⟩ ?_ ?_⟩
    · rintro i σ H1 hi ⟨e1, ⟨v2, v3, v4, rfl⟩, hno⟩
      have hi : i < ns.length := by omega
      walk_at "go"
      refine g_lenL (e1.seq hS) ?_
      walk_at "go"
      rw [List.length_map]
      refine ⟨by omega, by omega, for_R (fun j σ H' => Same H H' ∧ (∃ v3 v4, σ = [some (.int n), some (.ref a), some (.int (0 + (i : Nat))), v3, v4]) ∧ ∀ m, m < (i * ns.length + j) * ns.length → ¬ rgAt n ns m) ⟨e1, ⟨_, _, rfl⟩, hno⟩ ?_ ?_⟩
      · rintro j σ H2 hj ⟨e2, ⟨v3, v4, rfl⟩, hno2⟩
        have hj : j < ns.length := by omega
        walk_at "go"
        refine g_lenL (e2.seq hS) ?_
        walk_at "go"
        rw [List.length_map]
        refine ⟨by omega, by omega, for_R (fun l σ H' => Same H H' ∧ (∃ v4, σ = [some (.int n), some (.ref a), some (.int (0 + (i : Nat))), some (.int (0 + (j : Nat))), v4]) ∧ ∀ m, m < (i * ns.length + j) * ns.length + l → ¬ rgAt n ns m) ⟨e2, ⟨_, rfl⟩, hno2⟩ ?_ ?_⟩
        · rintro l σ H3 hl ⟨e3, ⟨v4, rfl⟩, hno3⟩
          have hl : l < ns.length := by omega
          have hS3 := e3.seq hS
          walk_at "go"
          refine g_ixL hS3 (atj i hi) ?_
          walk_at "go"
          refine g_ixL hS3 (atj j hj) ?_
          walk_at "go"
          refine g_ixL hS3 (atj l hl) ?_
          walk_at "go"
          refine ⟨n, _, _, _, rfl, hw, fun H4 e4 => ?_⟩
          walk_at "go"
          obtain ⟨d1, d2, d3⟩ := three_div (i := i) hj hl
          have hrg : rgAt n ns ((i * ns.length + j) * ns.length + l) ↔ Rg n (ns.getD i 0) (ns.getD j 0) (ns.getD l 0) := by
            unfold rgAt
            rw [d1, d2, d3]
          refine ite_dec (fun h1 => ?_) (fun h1 => ?_)
          · walk_at "go"
            intro p hp
            refine k1 hw hrow _ ⟨?_, hrg.mpr h1, hno3⟩ p _ ((e3.trans e4).trans (Same.new hp)) ((e3.trans e4).free hp) ?_
            · have h2 : i * ns.length + j + 1 ≤ ns.length * ns.length := by
                have := Nat.mul_le_mul_right ns.length (show i + 1 ≤ ns.length from hi)
                rw [Nat.add_mul, Nat.one_mul] at this
                omega
              have h3 := Nat.mul_le_mul_right ns.length h2
              rw [Nat.add_mul, Nat.one_mul] at h3
              omega
            · unfold threeV
              rw [d1, d2, d3, upd_same, Int.zero_add, Int.zero_add, Int.zero_add]
          · walk_at "go"
            refine ⟨e3.trans e4, ⟨_, rfl⟩, fun m hm => ?_⟩
            by_cases q : m = (i * ns.length + j) * ns.length + l
            · rw [q]
              exact fun z => h1 (hrg.mp z)
            · exact hno3 m (by omega)
        · rintro σ H3 ⟨e3, ⟨v4, rfl⟩, hno3⟩
          refine ⟨e3, ⟨_, _, rfl⟩, fun m hm => hno3 m ?_⟩
          have : (i * ns.length + (j + 1)) * ns.length = (i * ns.length + j) * ns.length + ns.length := by
            rw [← Nat.add_assoc, Nat.add_mul, Nat.one_mul]
          omega
      · rintro σ H2 ⟨e2, ⟨v3, v4, rfl⟩, hno2⟩
        refine ⟨e2, ⟨_, _, _, rfl⟩, fun m hm => hno2 m ?_⟩
        have : (i + 1) * ns.length * ns.length = (i * ns.length + ns.length) * ns.length := by
          rw [Nat.add_mul, Nat.one_mul]
        have h2 : ((ns.length : Nat) : Int).toNat = ns.length := by omega
        rw [h2]
        omega
    · rintro σ H1 ⟨e1, ⟨v2, v3, v4, rfl⟩, hno⟩
      walk_at "go"
      have h2 : ((ns.length : Nat) : Int).toNat = ns.length := by omega
      rw [h2] at hno
      exact k2 hw hrow hno _ e1
end
end My
namespace My
open PySem PySem.Spec PyProof.Rows L2
section
variable {P : Program} {w : World} {K : PySem.W.Frag} {mg : Str → Option Value} {base : Heap} {ec : Ec}
theorem sc__law_start : FnScope ["_law_script", "_law_mixed", "_law_cell"] ["_law_script"] (defScope s__law_start) := ⟨rfl, rfl, rfl, by decide +kernel, rfl, by decide +kernel, by decide +kernel⟩
theorem ok_start (T : Txt K mg ec) (D : Fn K mg "_law_start" s__law_start) : Knows P w K mg base 1 "_law_start" ["_law_script"] (sp_start K) := by
  refine Knows.mk' D sc__law_start (fun _ _ _ _ _ _ us hl => match us, hl with | [_], _ => rfl) (fun vs H Q E h => ?_) (fun f cdv A outer s H vs Q E hr h => ?_)
  · obtain ⟨s, ns, rfl, _⟩ := h; rfl
  · obtain ⟨s, ns, rfl, hS, hl, k⟩ := h
    refine ⟨_, (pss_cons (ps_set (i := 1) sc__law_start.nd rfl (Or.inl rfl) pe_int)
    (pss_cons (ps_for passO rfl (pi_list (pv 0)) (pg_name (i := 2) sc__law_start.nd rfl (Or.inl rfl)) (pss_one (ps_set (i := 1) sc__law_start.nd rfl (Or.inl rfl) (pe_op op_mod (pe_op op_add (pe_op op_add (pe_op op_mul (pv 1) pe_int) (pv 2)) pe_int) pe_int))))
    (pss_one (ps_ret (pe_lst (pa_cons (pv 0) (pa_cons pe_int (pa_cons (pv 1) (pa_cons pe_int pa_nil))))))))), ?_⟩
    refine g_start (σ := [some _, none, none]) rfl ?_
    try dsimp only [cxOf]
    walk_at "go"
    refine ⟨⟨_, hS⟩, for_L (K := K) (a := s) (xs := ns.map V.int) (fun i σ H' => H' = H ∧ ∃ (m : Int) (c : Option V), σ = [some (.ref s), some (.int m), c]) ⟨rfl, 1, none, rfl⟩ (fun i σ H' _ h => h.1 ▸ hS) ?_ ?_⟩
    · rintro i y σ H' hi ⟨rfl, m, c, rfl⟩
      obtain ⟨z, hz, _⟩ := int_at hi
      subst hz
      walk_at "go"
      exact ⟨rfl, _, _, rfl⟩
    · rintro σ H' ⟨rfl, m, c, rfl⟩
      walk_at "go"
      intro p hp
      exact k p _ hp (Same.new hp) ⟨ns, 0, m, 0, upd_same, fun o => by rw [upd_upd]; exact (Same.new hp).seq hS, hl, Int.le_refl 0⟩
theorem sc__law_drawn : FnScope ["_law_state", "_law_many", "_law_found", "_law_cell"] ["_law_state", "_law_many"] (defScope s__law_drawn) := ⟨rfl, rfl, rfl, by decide +kernel, rfl, by decide +kernel, by decide +kernel⟩
theorem ok_drawn (T : Txt K mg ec) (D : Fn K mg "_law_drawn" s__law_drawn) : Knows P w K mg base 1 "_law_drawn" ["_law_state", "_law_many"] (sp_drawn K) := by
  refine Knows.mk' D sc__law_drawn (fun _ _ _ _ _ _ us hl => match us, hl with | [_, _], _ => rfl) (fun vs H Q E h => ?_) (fun f cdv A outer s H vs Q E hr h => ?_)
  · obtain ⟨a, sc, n, rfl, _⟩ := h; rfl
  · obtain ⟨a, sc, n, rfl, hD, ⟨hn0, hn1⟩, k⟩ := h
    refine ⟨_, (pss_cons (ps_if (pt_cmpR op_gt (pe_ix ix_list (pv 0) pe_int (fun _ _ => rfl)) pe_int (nomark _)) (pss_cons (ps_set (i := 2) sc__law_drawn.nd rfl (Or.inl rfl) (pe_op op_mod (pe_ix ix_list (pv 0) pe_int (fun _ _ => rfl)) (pv 1)))
    (pss_cons (ps_asg (pe_op op_fdivW (pe_ix ix_list (pv 0) pe_int (fun _ _ => rfl)) (pv 1)) (pg_sub (pv 0) pe_int set_list))
    (pss_one (ps_ret (pv 2))))) pss_nil)
    (pss_cons (ps_asg (pe_op op_add (pe_ix ix_list (pv 0) pe_int (fun _ _ => rfl)) pe_int) (pg_sub (pv 0) pe_int set_list))
    (pss_cons (ps_if (pt_cmpR op_le (pe_ix ix_list (pv 0) pe_int (fun _ _ => rfl)) (pe_callB call_lenN (by rfl) T.len PySem.boot_len (pa_cons (pe_ix ix_list (pv 0) pe_int (fun _ _ => rfl)) pa_nil)) (nomark _)) (pss_cons (ps_set (i := 3) sc__law_drawn.nd rfl (Or.inl rfl) (pe_ix ix_list (pe_ix ix_list (pv 0) pe_int (fun _ _ => rfl)) (pe_op op_sub (pe_ix ix_list (pv 0) pe_int (fun _ _ => rfl)) pe_int) (fun _ _ => rfl)))
    (pss_cons (ps_asg (pe_ifExp (pt_cmpR op_ge (pv 3) (pe_powc (v := 1000000000000000000) ⟨by decide, by decide, by decide⟩ (by decide)) (nomark _)) (pe_op op_fdivW (pv 3) (pv 1)) pe_int) (pg_sub (pv 0) pe_int set_list))
    (pss_one (ps_ret (pe_op op_mod (pv 3) (pv 1)))))) pss_nil)
    (pss_cons (ps_asg (pe_op op_mod (pe_op op_add (pe_op op_mul (pe_ix ix_list (pv 0) pe_int (fun _ _ => rfl)) pe_int) pe_int) pe_int) (pg_sub (pv 0) pe_int set_list))
    (pss_one (ps_ret (pe_op op_mod (pe_op op_fdivW (pe_ix ix_list (pv 0) pe_int (fun _ _ => rfl)) pe_int) (pv 1)))))))), ?_⟩
    refine g_start (σ := [some _, some _, none, none]) rfl ?_
    try dsimp only [cxOf]
    obtain ⟨ns, i, m, l, ha, hS, hl, hi⟩ := hD.ex
    have fin : ∀ i' m' l' : Int, 0 ≤ i' → Go K a sc H (upd H a (.lst [.ref sc, .int i', .int m', .int l'])) := fun i' m' l' h =>
      ⟨⟨ns, i', m', l', upd_same, fun o => by rw [upd_upd]; exact hS o, hl, h⟩, Kp.upd⟩
    walk_at "go"
    refine g_ixL (SqL.of ha) rfl ?_
    walk_at "go"
    refine ite_dec (fun h1 => ?_) (fun h1 => ?_)
    · walk_at "go"
      refine g_ixL (SqL.of ha) rfl ?_
      walk_at "go"
      refine g_ixL (SqL.of ha) rfl ?_
      walk_at "go"
      refine g_set43 ha ?_
      walk_at "go"
      exact k _ _ (Int.emod_nonneg _ (by omega)) (Int.emod_lt_of_pos _ hn0) (fin _ _ _ hi)
    · walk_at "go"
      refine g_ixL (SqL.of ha) rfl ?_
      walk_at "go"
      refine g_set41 ha ?_
      walk_at "go"
      refine g_ixL (SqL.of upd_same) rfl ?_
      walk_at "go"
      refine g_ixL (SqL.of upd_same) rfl ?_
      walk_at "go"
      refine g_lenL (hS _) ?_
      walk_at "go"
      rw [List.length_map]
      refine ite_dec (fun h2 => ?_) (fun h2 => ?_)
      · walk_at "go"
        refine g_ixL (SqL.of upd_same) rfl ?_
        walk_at "go"
        refine g_ixL (SqL.of upd_same) rfl ?_
        walk_at "go"
        refine g_ixAny (hS _) (by omega) (by rw [List.length_map]; omega) (fun v hv => ?_)
        obtain ⟨c, _, rfl⟩ := List.mem_map.mp hv
        walk_at "go"
        refine ite_dec (fun h3 => ?_) (fun h3 => ?_)
        · walk_at "go"
          refine g_set43 upd_same ?_
          rw [upd_upd]
          walk_at "go"
          exact k _ _ (Int.emod_nonneg _ (by omega)) (Int.emod_lt_of_pos _ hn0) (fin _ _ _ (by omega))
        · walk_at "go"
          refine g_set43 upd_same ?_
          rw [upd_upd]
          walk_at "go"
          exact k _ _ (Int.emod_nonneg _ (by omega)) (Int.emod_lt_of_pos _ hn0) (fin _ _ _ (by omega))
      · walk_at "go"
        refine g_ixL (SqL.of upd_same) rfl ?_
        walk_at "go"
        refine g_set42 upd_same ?_
        rw [upd_upd]
        walk_at "go"
        refine g_ixL (SqL.of upd_same) rfl ?_
        walk_at "go"
        exact k _ _ (Int.emod_nonneg _ (by omega)) (Int.emod_lt_of_pos _ hn0) (fin _ _ _ (by omega))
theorem sc__law_wheel : FnScope ["_law_state", "_law_wide"] ["_law_state"] (defScope s__law_wheel) := ⟨rfl, rfl, rfl, by decide +kernel, rfl, by decide +kernel, by decide +kernel⟩
theorem ok_wheel (T : Txt K mg ec) (D : Fn K mg "_law_wheel" s__law_wheel) (c__law_drawn : Knows P w K mg base 1 "_law_drawn" ["_law_state", "_law_many"] (sp_drawn K)) : Knows P w K mg base 2 "_law_wheel" ["_law_state"] (sp_wheel K) := by
  refine Knows.mk' D sc__law_wheel (fun _ _ _ _ _ _ us hl => match us, hl with | [_], _ => rfl) (fun vs H Q E h => ?_) (fun f cdv A outer s H vs Q E hr h => ?_)
  · obtain ⟨a, sc, rfl, _⟩ := h; rfl
  · obtain ⟨a, sc, rfl, hD, k⟩ := h
    refine ⟨_, (pss_cons (ps_set (i := 1) sc__law_wheel.nd rfl (Or.inl rfl) (pe_ix ix_list (pe_lst (pa_cons pe_int (pa_cons pe_int (pa_cons (pe_op op_sub (pe_powc (v := 1000000000000) ⟨by decide, by decide, by decide⟩ (by decide)) pe_int) pa_nil)))) (pe_callN c__law_drawn (hr.mono (by first | decide | omega)) passD (pa_cons (pv 0) (pa_cons pe_int pa_nil))) (fun _ _ => rfl)))
    (pss_cons (ps_if (pt_cmpR op_eq (pe_callN c__law_drawn (hr.mono (by first | decide | omega)) passD (pa_cons (pv 0) (pa_cons pe_int pa_nil))) pe_int (nomark _)) (pss_one (ps_ret (pe_ix ix_list (pe_lst (pa_cons pe_int (pa_cons pe_int (pa_cons pe_int (pa_cons pe_int (pa_cons pe_int (pa_cons (pe_powc (v := 65536) ⟨by decide, by decide, by decide⟩ (by decide)) (pa_cons (pe_powc (v := 4294967296) ⟨by decide, by decide, by decide⟩ (by decide)) (pa_cons (pe_powc (v := 549755813888) ⟨by decide, by decide, by decide⟩ (by decide)) pa_nil))))))))) (pe_callN c__law_drawn (hr.mono (by first | decide | omega)) passD (pa_cons (pv 0) (pa_cons pe_int pa_nil))) (fun _ _ => rfl)))) pss_nil)
    (pss_one (ps_ret (pe_op op_add pe_int (pe_callN c__law_drawn (hr.mono (by first | decide | omega)) passD (pa_cons (pv 0) (pa_cons (pv 1) pa_nil)))))))), ?_⟩
    refine g_start (σ := [some _, none]) rfl ?_
    try dsimp only [cxOf]
    walk_at "go"
    intro p hp
    walk_at "go"
    refine ⟨a, sc, 3, rfl, (by walk_at "dr"), (by decide), fun r1 H1 h0 h1 g1 => ?_⟩
    have hne : p ≠ a := by walk_at "ne"
    refine g_ixAny (SqL.of (by walk_at "hp")) h0 (by simpa using h1) (fun v hv => ?_)
    obtain ⟨z, rfl, hz⟩ := one_int (zs := [6, 60, 1000000000000 - 1]) hv
    have hz2 : 6 ≤ z ∧ z ≤ 999999999999 := by
      simp only [List.mem_cons, List.not_mem_nil, or_false] at hz
      omega
    have g1' := g1.new hp
    walk_at "go"
    refine ⟨a, sc, 4, rfl, (by walk_at "dr"), (by decide), fun r2 H2 h0 h1 g2 => ?_⟩
    walk_at "go"
    refine ite_dec (fun h2 => ?_) (fun h2 => ?_)
    · walk_at "go"
      intro q hq
      walk_at "go"
      refine ⟨a, sc, 8, rfl, (by walk_at "dr"), (by decide), fun r3 H3 h0 h1 g3 => ?_⟩
      have hne : q ≠ a := by walk_at "ne"
      refine g_ixAny (SqL.of (by walk_at "hp")) h0 (by simpa using h1) (fun v hv => ?_)
      obtain ⟨z, rfl, hz⟩ := one_int (zs := [2, 4, 8, 64, 256, 65536, 4294967296, 549755813888]) hv
      simp only [List.mem_cons, List.not_mem_nil, or_false] at hz
      exact k _ _ (by show 2 ≤ z ∧ z ≤ 1000000000000; omega) ((g1'.trans g2).trans (g3.new hq))
    · walk_at "go"
      refine ⟨a, sc, z, rfl, (by walk_at "dr"), (by omega), fun r3 H3 h0 h1 g3 => ?_⟩
      walk_at "go"
      exact k _ _ (by show 2 ≤ 2 + r3 ∧ 2 + r3 ≤ 1000000000000; omega) ((g1'.trans g2).trans g3)
end
end My
namespace My
open PySem PySem.Spec PyProof.Rows L2
section
variable {P : Program} {w : World} {K : PySem.W.Frag} {mg : Str → Option Value} {base : Heap} {ec : Ec}
theorem sc__law_kind : FnScope ["_law_work", "e", "_law_kinds", "_law_words"] ["_law_work"] (defScope s__law_kind) := ⟨rfl, rfl, rfl, by decide +kernel, rfl, by decide +kernel, by decide +kernel⟩
theorem kind_gives (X : Cx) {ec : Ec} (T : Txt X.K X.mg ec) (g : Addr) (cdg : Value) (q : Str) : LamX.GivesTo X ["_law_work", "e", "_law_kinds", "_law_words"] "_law_kind" (defScope s__law_kind) g cdg (defBody s__law_kind) "_law_work" q (TKind X.K ec) := by
  intro f c' s H Q tl act hc h
  refine ⟨_, pss_one (ps_try_as (X := (cxOf C8.CX0 X.prog X.w X.K X.mg X.base ["_law_work", "e", "_law_kinds", "_law_words"] "_law_kind" (defScope s__law_kind) g cdg X.A X.stack s H C8.E0).nox) (c := .ref ec.WrapError) (i := 1)
      (tb := fun W D σ H => ∃ Ech : XK, (∀ cls d σ' H', Ech cls d H' → W cls d σ' H') ∧ σ[0]? = some (some (.ref f)) ∧ H c' = some (LamX.CodeO c' q) ∧ tl Ech H D.rt)
      (ts := fun a cls d Dd σ H => ∃ D j, cls = .ref D ∧ d = none ∧ KindOf X.K ec D j ∧ (∃ σ' : L2.St, σ = σ'.set 1 (some (.ref a))) ∧ ∀ H'', Same H H'' → Dd.rt (.str (namesL.getD j "")) H'')
      (Wout := fun _ _ _ _ => False) rfl rfl sc__law_kind.nd rfl rfl ⟨rfl, by decide, .inl T.x_WrapError.g⟩ LamX.takes0 (fun W pn xe tk _ => ?_) (fun a oe cls d pn hz hv => ?_)), ?_⟩
  · refine ⟨fun pins s' σ H' D I h' => ?_⟩
    obtain ⟨Ech, hW, h1, h2, h3⟩ := h'
    exact (pss_one (ps_ret (act W pn xe Ech _ _ tk hW))).run pins s' σ H' D I ⟨h1, h2, h3⟩
  · refine pss_by fun Dd σ H' hlen h' => ?_
    obtain ⟨D, j, rfl, rfl, kd, ⟨σ', rfl⟩, k⟩ := h'
    rw [List.length_set] at hlen
    obtain ⟨x0, x1, x2, x3, rfl⟩ : ∃ x0 x1 x2 x3, σ' = [x0, x1, x2, x3] := by
      match σ', hlen with
      | [x0, x1, x2, x3], _ => exact ⟨x0, x1, x2, x3, rfl⟩
    refine ⟨_, (pss_cons (ps_set (i := 2) sc__law_kind.nd rfl (Or.inl rfl) (pe_lst (pa_cons (pe_callB (call_isE kd.c hz hv) (by rfl) T.isinstance (by decide +kernel) (pa_cons (pv 1) (pa_cons (pe_glob (v := .ref ec.BadWheel) rfl T.x_BadWheel.g rfl) pa_nil))) (pa_cons (pe_callB (call_isE kd.c hz hv) (by rfl) T.isinstance (by decide +kernel) (pa_cons (pv 1) (pa_cons (pe_glob (v := .ref ec.BadRule) rfl T.x_BadRule.g rfl) pa_nil))) (pa_cons (pe_callB (call_isE kd.c hz hv) (by rfl) T.isinstance (by decide +kernel) (pa_cons (pv 1) (pa_cons (pe_glob (v := .ref ec.BadSeen) rfl T.x_BadSeen.g rfl) pa_nil))) (pa_cons (pe_callB (call_isE kd.c hz hv) (by rfl) T.isinstance (by decide +kernel) (pa_cons (pv 1) (pa_cons (pe_glob (v := .ref ec.BadGaps) rfl T.x_BadGaps.g rfl) pa_nil))) pa_nil))))))
    (pss_cons (ps_set (i := 2) sc__law_kind.nd rfl (Or.inl rfl) (pe_op op_cat (pv 2) (pe_lst (pa_cons (pe_callB (call_isE kd.c hz hv) (by rfl) T.isinstance (by decide +kernel) (pa_cons (pv 1) (pa_cons (pe_glob (v := .ref ec.BadSpan) rfl T.x_BadSpan.g rfl) pa_nil))) (pa_cons (pe_callB (call_isE kd.c hz hv) (by rfl) T.isinstance (by decide +kernel) (pa_cons (pv 1) (pa_cons (pe_glob (v := .ref ec.BadLong) rfl T.x_BadLong.g rfl) pa_nil))) (pa_cons (pe_callB (call_isE kd.c hz hv) (by rfl) T.isinstance (by decide +kernel) (pa_cons (pv 1) (pa_cons (pe_glob (v := .ref ec.NoGap) rfl T.x_NoGap.g rfl) pa_nil))) (pa_cons (pe_callB (call_isE kd.c hz hv) (by rfl) T.isinstance (by decide +kernel) (pa_cons (pv 1) (pa_cons (pe_glob (v := .ref ec.NoSpan) rfl T.x_NoSpan.g rfl) pa_nil))) pa_nil)))))))
    (pss_cons (ps_set (i := 3) sc__law_kind.nd rfl (Or.inl rfl) (pe_lst (pa_cons pe_str (pa_cons pe_str (pa_cons pe_str (pa_cons pe_str (pa_cons pe_str (pa_cons pe_str (pa_cons pe_str (pa_cons pe_str pa_nil))))))))))
    (pss_cons (ps_if (PW.pt (pw_or (pt_cmpR op_ne (pe_bm PySem.F.plainAttrs_list PySem.F.slot_list_count PySem.F.type_list_count mt_countF (pv 2) (pa_cons pe_bl pa_nil)) pe_int (nomark _)) (pw_or1 (pt_not (pt_val (pe_callB (call_isE kd.c hz hv) (by rfl) T.isinstance (by decide +kernel) (pa_cons (pv 1) (pa_cons (pe_bltn (v := .ty "ValueError") (u := .type "ValueError") (by rfl) T.ValueError (by decide +kernel) rfl) pa_nil))) (by intro _; rfl)))))) (pss_one (ps_ret pe_str)) pss_nil)
    (pss_one (ps_ret (pe_ix ix_list (pv 3) (pe_bm PySem.F.plainAttrs_list PySem.F.slot_list_index PySem.F.type_list_index mt_index (pv 2) (pa_cons pe_bl pa_nil)) (fun _ _ => rfl)))))))), ?_⟩
    try dsimp only [cxOf]
    walk_at "wp"
    walk_at "go"
    refine g_isE kd.i0 ?_
    walk_at "go"
    refine g_isE kd.i1 ?_
    walk_at "go"
    refine g_isE kd.i2 ?_
    walk_at "go"
    refine g_isE kd.i3 ?_
    walk_at "go"
    intro p1 hp1
    walk_at "go"
    refine g_isE kd.i4 ?_
    walk_at "go"
    refine g_isE kd.i5 ?_
    walk_at "go"
    refine g_isE kd.i6 ?_
    walk_at "go"
    refine g_isE kd.i7 ?_
    walk_at "go"
    intro p2 hp2
    refine g_cat (upd_old upd_same hp2) upd_same (by simp) (fun p3 hp3 => ?_)
    have e1 := ((Same.new hp1 (o := .lst [V.bl (decide (0 = j)), V.bl (decide (1 = j)), V.bl (decide (2 = j)), V.bl (decide (3 = j))])).trans (Same.new hp2 (o := .lst [V.bl (decide (4 = j)), V.bl (decide (5 = j)), V.bl (decide (6 = j)), V.bl (decide (7 = j))]))).trans (Same.new hp3 (o := .lst (kindsL j)))
    have u1 : upd (upd (upd H' p1 (.lst [V.bl (decide (0 = j)), V.bl (decide (1 = j)), V.bl (decide (2 = j)), V.bl (decide (3 = j))])) p2 (.lst [V.bl (decide (4 = j)), V.bl (decide (5 = j)), V.bl (decide (6 = j)), V.bl (decide (7 = j))])) p3 (.lst (kindsL j)) p3 = some (.lst (kindsL j)) := upd_same
    show gName _ _ _ (upd (upd (upd H' p1 (.lst [V.bl (decide (0 = j)), V.bl (decide (1 = j)), V.bl (decide (2 = j)), V.bl (decide (3 = j))])) p2 (.lst [V.bl (decide (4 = j)), V.bl (decide (5 = j)), V.bl (decide (6 = j)), V.bl (decide (7 = j))])) p3 (.lst (kindsL j))) _
    generalize upd (upd (upd H' p1 (.lst [V.bl (decide (0 = j)), V.bl (decide (1 = j)), V.bl (decide (2 = j)), V.bl (decide (3 = j))])) p2 (.lst [V.bl (decide (4 = j)), V.bl (decide (5 = j)), V.bl (decide (6 = j)), V.bl (decide (7 = j))])) p3 (.lst (kindsL j)) = H1 at *
    walk_at "go"
    intro p4 hp4
    have e2 := Same.new hp4 (o := .lst (namesL.map V.str))
    walk_at "go"
    refine g_tyL (SqL.of (e2 _ _ u1)) ?_
    walk_at "go"
    refine g_count (SqL.of (e2 _ _ u1)) rfl (kinds_flat j) ?_
    rw [kinds_count j kd.lt]
    walk_at "go"
    refine ite_ndec (fun z => (z rfl).elim) (fun _ => ?_)
    walk_at "go"
    refine g_isET kd.v ?_
    walk_at "go"
    refine g_tyL (SqL.of (e2 _ _ u1)) ?_
    walk_at "go"
    refine g_index (SqL.of (e2 _ _ u1)) rfl (kinds_flat j) (kinds_at j kd.lt) rfl (fun m z hm hz => kinds_no kd.lt m z hm hz) ?_
    walk_at "go"
    refine g_ixL (xs := namesL.map V.str) (SqL.of upd_same) (atI_nat (names_at j kd.lt)) ?_
    walk_at "go"
    exact k _ (e1.trans e2)
  · refine ⟨_, fun cls d σ' H' h' => ?_, rfl, hc, h⟩
    obtain ⟨D, j, rfl, rfl, kd, k⟩ := h'
    exact ⟨true, kd.m, fun _ a ha => ⟨D, j, rfl, rfl, kd, ⟨σ', rfl⟩, k⟩, fun z => by cases z⟩
end
end My
namespace My
open PySem PySem.Spec PyProof.Rows L2
section
variable {P : Program} {w : World} {K : PySem.W.Frag} {mg : Str → Option Value} {base : Heap} {ec : Ec}
theorem sc__law_same : FnScope ["_law_found", "_law_due_here", "_law_k"] ["_law_found", "_law_due_here"] (defScope s__law_same) := ⟨rfl, rfl, rfl, by decide +kernel, rfl, by decide +kernel, by decide +kernel⟩
theorem same_step (T : Txt K mg ec) (D : Fn K mg "_law_same" s__law_same) (d : Nat) (c__law_same : Knows P w K mg base d "_law_same" ["_law_found", "_law_due_here"] (sp_samep d)) : Knows P w K mg base (d + 1) "_law_same" ["_law_found", "_law_due_here"] (sp_same d) := by
  refine Knows.mk' D sc__law_same (fun _ _ _ _ _ _ us hl => match us, hl with | [_, _], _ => rfl) (fun vs H Q E h => ?_) (fun f cdv A outer s H vs Q E hr h => ?_)
  · obtain ⟨x, y, rfl, _⟩ := h; rfl
  · obtain ⟨x, y, rfl, hsd, k⟩ := h
    refine ⟨_, (pss_cons (ps_if (pt_val (pe_callB call_isiT (by rfl) T.isinstance (by decide +kernel) (pa_cons (pv 1) (pa_cons (pe_tup (pa_cons (pe_bltn (v := .ty "tuple") (u := .type "tuple") (by rfl) T.tuple (by decide +kernel) rfl) (pa_cons (pe_bltn (v := .ty "list") (u := .type "list") (by rfl) T.list (by decide +kernel) rfl) pa_nil))) pa_nil))) (by intro _; rfl)) (pss_cons (ps_if (PW.pt (pw_or (pt_not (pt_val (pe_callB call_isiT (by rfl) T.isinstance (by decide +kernel) (pa_cons (pv 0) (pa_cons (pe_tup (pa_cons (pe_bltn (v := .ty "tuple") (u := .type "tuple") (by rfl) T.tuple (by decide +kernel) rfl) (pa_cons (pe_bltn (v := .ty "list") (u := .type "list") (by rfl) T.list (by decide +kernel) rfl) pa_nil))) pa_nil))) (by intro _; rfl))) (pw_or1 (pt_cmpR op_ne (pe_callB call_isi (by rfl) T.isinstance (by decide +kernel) (pa_cons (pv 0) (pa_cons (pe_bltn (v := .ty "list") (u := .type "list") (by rfl) T.list (by decide +kernel) rfl) pa_nil))) (pe_callB call_isi (by rfl) T.isinstance (by decide +kernel) (pa_cons (pv 1) (pa_cons (pe_bltn (v := .ty "list") (u := .type "list") (by rfl) T.list (by decide +kernel) rfl) pa_nil))) (nomark _))))) (pss_one (ps_ret pe_bl)) pss_nil)
    (pss_cons (ps_if (pt_cmpR op_ne (pe_callB call_lenN (by rfl) T.len PySem.boot_len (pa_cons (pv 0) pa_nil)) (pe_callB call_lenN (by rfl) T.len PySem.boot_len (pa_cons (pv 1) pa_nil)) (nomark _)) (pss_one (ps_ret pe_bl)) pss_nil)
    (pss_one (ps_ret (pe_cmpR (op_eqD hr.units) (pe_lc (own := [("_law_k", 2)]) (g := gName 2) rfl sc__law_same.nd (pi_range1 (by rfl) T.range (pa_cons (pe_callB call_lenN (by rfl) T.len PySem.boot_len (pa_cons (pv 1) pa_nil)) pa_nil)) (blkOk_by (own := [("_law_k", 2)]) (N := ["_law_found", "_law_due_here", "_law_k"]) (sc := defScope s__law_same) (by decide +kernel)) (fun _ _ _ _ _ => (pg_name (i := 2) sc__law_same.nd rfl (Or.inl rfl))) (fun _ _ _ _ _ => (pts_one (pt_not (pt_val (pe_callN c__law_same (hr.mono (by first | decide | omega)) passL (pa_cons (pe_ix (r := rIx K) ix_seq (pv 0) (pv 2) (fun _ _ => rfl)) (pa_cons (pe_ix (r := rIx K) ix_seq (pv 1) (pv 2) (fun _ _ => rfl)) pa_nil))) (by intro _; rfl))))) (fun _ _ _ _ _ => (pv 2))) (pe_lst pa_nil) (nomark _)))))) pss_nil)
    (pss_cons (ps_if (pt_cmpR op_isNN (pv 1) pe_non (nomark _)) (pss_one (ps_ret (pe_cmpR op_isNN (pv 0) pe_non (nomark _)))) pss_nil)
    (pss_cons (ps_if (pt_val (pe_callB call_isi (by rfl) T.isinstance (by decide +kernel) (pa_cons (pv 1) (pa_cons (pe_bltn (v := .ty "str") (u := .type "str") (by rfl) T.str (by decide +kernel) rfl) pa_nil))) (by intro _; rfl)) (pss_one (ps_ret (pe_and (pe_callB call_isi (by rfl) T.isinstance (by decide +kernel) (pa_cons (pv 0) (pa_cons (pe_bltn (v := .ty "str") (u := .type "str") (by rfl) T.str (by decide +kernel) rfl) pa_nil))) (pe_one (pe_cmpR op_eq (pv 0) (pv 1) (nomark _)))))) pss_nil)
    (pss_cons (ps_if (PW.pt (pw_or (pt_val (pe_callB call_isi (by rfl) T.isinstance (by decide +kernel) (pa_cons (pv 1) (pa_cons (pe_bltn (v := .ty "bool") (u := .type "bool") (by rfl) T.bool (by decide +kernel) rfl) pa_nil))) (by intro _; rfl)) (pw_or1 (pt_val (pe_callB call_isi (by rfl) T.isinstance (by decide +kernel) (pa_cons (pv 0) (pa_cons (pe_bltn (v := .ty "bool") (u := .type "bool") (by rfl) T.bool (by decide +kernel) rfl) pa_nil))) (by intro _; rfl))))) (pss_one (ps_ret (pe_and (pe_callB call_isi (by rfl) T.isinstance (by decide +kernel) (pa_cons (pv 1) (pa_cons (pe_bltn (v := .ty "bool") (u := .type "bool") (by rfl) T.bool (by decide +kernel) rfl) pa_nil))) (pe_and (pe_callB call_isi (by rfl) T.isinstance (by decide +kernel) (pa_cons (pv 0) (pa_cons (pe_bltn (v := .ty "bool") (u := .type "bool") (by rfl) T.bool (by decide +kernel) rfl) pa_nil))) (pe_one (pe_cmpR op_eq (pv 0) (pv 1) (nomark _))))))) pss_nil)
    (pss_one (ps_ret (pe_and (pe_callB call_isi (by rfl) T.isinstance (by decide +kernel) (pa_cons (pv 0) (pa_cons (pe_bltn (v := .ty "int") (u := .type "int") (by rfl) T.int (by decide +kernel) rfl) pa_nil))) (pe_one (pe_cmpR op_eq (pv 0) (pv 1) (nomark _)))))))))), ?_⟩
    refine g_start (σ := [some _, some _, none]) rfl ?_
    try dsimp only [cxOf]
    walk_at "go"
    intro tp htp
    have e1 : Same H (upd H tp (.tup [.ty "tuple", .ty "list"])) := Same.new htp
    walk_at "go"
    cases hsd with
    | non =>
      refine g_isiTL (.base .non) upd_same (r1 := false) (r2 := false) (r := false) (by decide +kernel) (by decide +kernel) rfl ?_
      walk_at "go"
      try refine ite_dec (fun _ => ?_) (fun z => (z rfl).elim)
      walk_at "go"
      rw [decide_eq_true rfl]
      exact k _ e1
    | str z =>
      refine g_isiTL (.base (.str z)) upd_same (r1 := false) (r2 := false) (r := false) (by decide +kernel) (by decide +kernel) rfl ?_
      walk_at "go"
      refine ite_dec (fun z => nomatch z) (fun _ => ?_)
      walk_at "go"
      refine g_isi (.base (.str z)) (r := true) (by decide +kernel) ?_
      walk_at "go"
      refine g_isi (.base (.str z)) (r := true) (by decide +kernel) ?_
      walk_at "go"
      rw [decide_eq_true rfl]
      exact k _ e1
    | bl z =>
      refine g_isiTL (.base (.bl z)) upd_same (r1 := false) (r2 := false) (r := false) (by decide +kernel) (by decide +kernel) rfl ?_
      walk_at "go"
      refine ite_dec (fun z => nomatch z) (fun _ => ?_)
      walk_at "go"
      refine g_isi (.base (.bl z)) (r := false) (by decide +kernel) ?_
      walk_at "go"
      refine g_isi (.base (.bl z)) (r := true) (by decide +kernel) ?_
      walk_at "go"
      refine g_isi (.base (.bl z)) (r := true) (by decide +kernel) ?_
      walk_at "go"
      refine g_isi (.base (.bl z)) (r := true) (by decide +kernel) ?_
      walk_at "go"
      rw [decide_eq_true rfl]
      exact k _ e1
    | int z =>
      refine g_isiTL (.base (.int z)) upd_same (r1 := false) (r2 := false) (r := false) (by decide +kernel) (by decide +kernel) rfl ?_
      walk_at "go"
      refine ite_dec (fun z => nomatch z) (fun _ => ?_)
      walk_at "go"
      refine g_isi (.base (.int z)) (r := false) (by decide +kernel) ?_
      walk_at "go"
      refine g_isi (.base (.int z)) (r := false) (by decide +kernel) ?_
      walk_at "go"
      refine g_isi (.base (.int z)) (r := false) (by decide +kernel) ?_
      walk_at "go"
      refine g_isi (.base (.int z)) (r := true) (by decide +kernel) ?_
      walk_at "go"
      rw [decide_eq_true rfl]
      exact k _ e1
    | @lst d a b xs ys h1 h2 hl hz hi =>
      refine g_isiTL (.base (.lst (e1 _ _ h2))) upd_same (r1 := false) (r2 := true) (r := true) (by decide +kernel) (by decide +kernel) rfl ?_
      walk_at "go"
      intro tq htq
      have e2 := e1.trans (Same.new (o := .tup [.ty "tuple", .ty "list"]) htq)
      walk_at "go"
      refine g_isiTL (.base (.lst (e2 _ _ h1))) upd_same (r1 := false) (r2 := true) (r := true) (by decide +kernel) (by decide +kernel) rfl ?_
      walk_at "go"
      refine g_isi (.base (.lst (e2 _ _ h1))) (r := true) (by decide +kernel) ?_
      walk_at "go"
      refine g_isi (.base (.lst (e2 _ _ h2))) (r := true) (by decide +kernel) ?_
      walk_at "go"
      try refine ite_ndec (fun z => (z rfl).elim) (fun _ => ?_)
      walk_at "go"
      refine g_lenL (SqL.of (e2 _ _ h1)) ?_
      walk_at "go"
      refine g_lenL (SqL.of (e2 _ _ h2)) ?_
      walk_at "go"
      rw [hl]
      try refine ite_ndec (fun z => (z rfl).elim) (fun _ => ?_)
      walk_at "go"
      refine g_lenL (SqL.of (e2 _ _ h2)) ?_
      walk_at "go"
      refine ⟨by omega, by omega, fun L hL => lc_R 0 _ (fun i acc H' => acc = [] ∧ Same H H' ∧ Same (upd (upd H tp (.tup [.ty "tuple", .ty "list"])) tq (.tup [.ty "tuple", .ty "list"])) H') (fun i acc H' o h => ⟨h.1, Same.mut h.2.1 (e2.free hL), Same.mut h.2.2 hL⟩) ⟨rfl, e2, Same.refl _⟩ ?_ ?_⟩
      · rintro i acc H3 hil ⟨rfl, e3, e3'⟩ hDl hal
        walk_at "wp"
        walk_at "go"
        refine ⟨rfl, ?_⟩
        walk_at "go"
        have hil2 : i < ys.length := by omega
        have hil1 : i < xs.length := by omega
        refine Or.inl (g_ixL (v := xs[i]) (SqL.of (e3 _ _ h1)) (by rw [Int.zero_add]; exact atI_nat (List.getElem?_eq_getElem hil1)) ?_)
        walk_at "go"
        refine Or.inl (g_ixL (v := ys[i]) (SqL.of (e3 _ _ h2)) (by rw [Int.zero_add]; exact atI_nat (List.getElem?_eq_getElem hil2)) ?_)
        walk_at "go"
        refine ⟨_, _, rfl, (hi i _ _ (List.getElem?_eq_getElem hil1) (List.getElem?_eq_getElem hil2)).same e3, fun H4 e4 => ?_⟩
        walk_at "go"
        exact lc_skip (e4 _ _ hDl) hal ⟨rfl, e3.trans e4, e3'.trans e4⟩
      · rintro acc H3 ⟨rfl, e3, _⟩ hDl
        walk_at "go"
        intro z hz
        refine g_eqInts (ns := []) (ms := []) (SqL.of (by walk_at "hp")) (SqL.of upd_same) ?_
        rw [decide_eq_true rfl]
        exact k _ (e3.trans (Same.new hz))
    | @tup d a b xs ys h1 h2 hl hz hi =>
      refine g_isiTL (.base (.tup (e1 _ _ h2))) upd_same (r1 := true) (r2 := false) (r := true) (by decide +kernel) (by decide +kernel) rfl ?_
      walk_at "go"
      intro tq htq
      have e2 := e1.trans (Same.new (o := .tup [.ty "tuple", .ty "list"]) htq)
      walk_at "go"
      refine g_isiTL (.base (.tup (e2 _ _ h1))) upd_same (r1 := true) (r2 := false) (r := true) (by decide +kernel) (by decide +kernel) rfl ?_
      walk_at "go"
      refine g_isi (.base (.tup (e2 _ _ h1))) (r := false) (by decide +kernel) ?_
      walk_at "go"
      refine g_isi (.base (.tup (e2 _ _ h2))) (r := false) (by decide +kernel) ?_
      walk_at "go"
      try refine ite_ndec (fun z => (z rfl).elim) (fun _ => ?_)
      walk_at "go"
      refine g_lenT (SqT.of (e2 _ _ h1)) ?_
      walk_at "go"
      refine g_lenT (SqT.of (e2 _ _ h2)) ?_
      walk_at "go"
      rw [hl]
      try refine ite_ndec (fun z => (z rfl).elim) (fun _ => ?_)
      walk_at "go"
      refine g_lenT (SqT.of (e2 _ _ h2)) ?_
      walk_at "go"
      refine ⟨by omega, by omega, fun L hL => lc_R 0 _ (fun i acc H' => acc = [] ∧ Same H H' ∧ Same (upd (upd H tp (.tup [.ty "tuple", .ty "list"])) tq (.tup [.ty "tuple", .ty "list"])) H') (fun i acc H' o h => ⟨h.1, Same.mut h.2.1 (e2.free hL), Same.mut h.2.2 hL⟩) ⟨rfl, e2, Same.refl _⟩ ?_ ?_⟩
      · rintro i acc H3 hil ⟨rfl, e3, e3'⟩ hDl hal
        walk_at "wp"
        walk_at "go"
        refine ⟨rfl, ?_⟩
        walk_at "go"
        have hil2 : i < ys.length := by omega
        have hil1 : i < xs.length := by omega
        refine Or.inr (Or.inl (g_ixT (v := xs[i]) (SqT.of (e3 _ _ h1)) (by rw [Int.zero_add]; exact atI_nat (List.getElem?_eq_getElem hil1)) ?_))
        walk_at "go"
        refine Or.inr (Or.inl (g_ixT (v := ys[i]) (SqT.of (e3 _ _ h2)) (by rw [Int.zero_add]; exact atI_nat (List.getElem?_eq_getElem hil2)) ?_))
        walk_at "go"
        refine ⟨_, _, rfl, (hi i _ _ (List.getElem?_eq_getElem hil1) (List.getElem?_eq_getElem hil2)).same e3, fun H4 e4 => ?_⟩
        walk_at "go"
        exact lc_skip (e4 _ _ hDl) hal ⟨rfl, e3.trans e4, e3'.trans e4⟩
      · rintro acc H3 ⟨rfl, e3, _⟩ hDl
        walk_at "go"
        intro z hz
        refine g_eqInts (ns := []) (ms := []) (SqL.of (by walk_at "hp")) (SqL.of upd_same) ?_
        rw [decide_eq_true rfl]
        exact k _ (e3.trans (Same.new hz))
theorem ok_same0 (T : Txt K mg ec) (D : Fn K mg "_law_same" s__law_same) : Knows P w K mg base 1 "_law_same" ["_law_found", "_law_due_here"] (sp_same 0) := same_step T D 0 (knows_false D (fun _ _ _ _ _ _ us hl => match us, hl with | [_, _], _ => rfl))
theorem ok_same1 (T : Txt K mg ec) (D : Fn K mg "_law_same" s__law_same) : Knows P w K mg base 2 "_law_same" ["_law_found", "_law_due_here"] (sp_same 1) := same_step T D 1 (ok_same0 T D)
end
end My
namespace My
open PySem PySem.Spec PyProof.Rows L2
/-! ### promises: what the laws about rules draw -/
def sp_rule (K : PySem.W.Frag) : Sp := fun vs H Q _ => ∃ (a s : Addr) (n : Int), vs = [.ref a, .int n] ∧ Dr K a s H ∧ Wh n ∧ ∀ r q H', RuleOk n r → H' q = some (.tup (ruleV r)) → Go K a s H H' → Q (.ref q) H'
def sp_time (K : PySem.W.Frag) : Sp := fun vs H Q _ => ∃ (a s : Addr), vs = [.ref a] ∧ Dr K a s H ∧ ∀ t H', Go K a s H H' → Q (.int t) H'
def sp_lbound : Sp := fun vs H Q _ => ∃ (n : Int) (q : Addr) (r : Rule), vs = [.int n, .ref q] ∧ H q = some (.tup (ruleV r)) ∧ Wh n ∧ RuleOk n r ∧ ∀ p H', Same H H' → H' p = some (.tup [.int (loR n r), .int (hiR n r)]) → Q (.ref p) H'
def sp_near_bound (K : PySem.W.Frag) : Sp := fun vs H Q _ => ∃ (a s : Addr) (n : Int) (q : Addr) (r : Rule), vs = [.ref a, .int n, .ref q] ∧ Dr K a s H ∧ H q = some (.tup (ruleV r)) ∧ Wh n ∧ RuleOk n r ∧ ∀ t H', Go K a s H H' → Q (.int t) H'
theorem wide_R {n : Int} {r : Rule} (hw : Wh n) (hr : RuleOk n r) : Mn (hiR n r - loR n r + 1) := by
  have h1 := hw.1
  have h2 := hw.2
  cases r with
  | up l => exact ⟨by show 0 < l + n - 1 - l + 1; omega, by show l + n - 1 - l + 1 < _; omega⟩
  | near => exact ⟨by show 0 < n / 2 - (0 - (n - 1) / 2) + 1; omega, by show n / 2 - (0 - (n - 1) / 2) + 1 < _; omega⟩
  | pair o =>
    have o1 := hr.1
    have o2 := hr.2
    have a1 := lcmI_pos (n := n) (o := o) (by omega) (by omega)
    have a2 := lcmI_le (n := n) (o := o) (by omega) (by omega)
    have a3 : n * o ≤ 1000000000000 * 1000000000000 := Int.mul_le_mul h2 o2 (by omega) (by decide)
    have a4 : (1000000000000 * 1000000000000 : Int) < 2 ^ 150 := by decide
    exact ⟨by show 0 < lcmI n o - 1 - 0 + 1; omega, by show lcmI n o - 1 - 0 + 1 < _; omega⟩
  | about f =>
    have o1 := hr.1
    have o2 := hr.2
    exact ⟨by show 0 < f - (0 - f) + 1; omega, by show f - (0 - f) + 1 < _; omega⟩
section
variable {K : PySem.W.Frag} {a s p : Addr} {H : Hp} {m : Int} {E : XK} {Q : VK}
/-- one of a new list, drawn -/
theorem g_pick {xs : List V} (hp : H p = none) (hD : Dr K a s H) (hm : Mn m) (hl : m = (xs.length : Int)) (q : ∀ v H', v ∈ xs → Go K a s (upd H p (.lst xs)) H' → Go K a s H H' → H' p = some (.lst xs) → Q v H') :
    sp_drawn K [.ref a, .int m] (upd H p (.lst xs)) (fun v H1 => rIxL K (.ref p) v H1 Q) E := by
  refine ⟨a, s, m, rfl, hD.same (Same.new hp), hm, fun r H1 h0 h1 g => ?_⟩
  have hne : p ≠ a := hD.ne hp
  have hl1 := g.at upd_same hne
  exact g_ixAny (SqL.of hl1) h0 (by omega) fun v hv => q v H1 hv g (g.new hp) hl1
theorem g_pickI {zs : List Int} (hp : H p = none) (hD : Dr K a s H) (hm : Mn m) (hl : m = (zs.length : Int)) (q : ∀ z H', z ∈ zs → Go K a s H H' → Q (.int z) H') :
    sp_drawn K [.ref a, .int m] (upd H p (.lst (zs.map V.int))) (fun v H1 => rIxL K (.ref p) v H1 Q) E :=
  g_pick hp hD hm (by rw [List.length_map]; exact hl) fun v H' hv _ g _ => by
    obtain ⟨z, rfl, hz⟩ := one_int hv
    exact q z H' hz g
end
/-- a new thing, not known to H, is changed by a def that keeps all else -/
theorem Dr.kpx {K : PySem.W.Frag} {a s D : Addr} {H H1 H' : Hp} (d : Dr K a s H) (d' : Dr K a s H1) (h : H D = none) (kp : Kp D H1 H') : Dr K a s H' := by
  obtain ⟨ns, i, m, l, h1, h2, h3, h4⟩ := d.ex
  obtain ⟨ns', i', m', l', g1, g2, g3, g4⟩ := d'.ex
  have nDa : a ≠ D := ne_of_none h1 h
  rcases h2 (.tbl #[]) with hr | hk
  · have nDs : s ≠ D := fun e => by
      subst e
      have z : L2.upd H a (.tbl #[]) s = none := by rw [upd_ne nDa.symm]; exact h
      rcases hr with hr | ⟨_, hr⟩ <;> rw [z] at hr <;> cases hr
    refine ⟨ns', i', m', l', kp _ _ g1 nDa, fun o' => ?_, g3, g4⟩
    have key : ∀ u, L2.upd H1 a o' s = some u → L2.upd H' a o' s = some u := fun u z => by
      by_cases e : s = a
      · subst e; rw [upd_same] at z ⊢; exact z
      · rw [upd_ne e] at z ⊢; exact kp _ _ z nDs
    rcases g2 o' with q | q
    · refine .inl ?_
      rcases q with q | ⟨u, q⟩
      · exact .inl (key _ q)
      · exact .inr ⟨u, key _ q⟩
    · exact .inr q
  · exact ⟨ns, i', m', l', kp _ _ g1 nDa, fun o' => .inr hk, h3, g4⟩
theorem Go.kpx {K : PySem.W.Frag} {a s D : Addr} {H H1 H' : Hp} (g : Go K a s H H1) (d : Dr K a s H) (h : H D = none) (kp : Kp D H1 H') : Go K a s H H' :=
  ⟨d.kpx g.dr h kp, fun b o hb hn => kp b o (g.kp b o hb hn) (ne_of_none hb h)⟩
end My
namespace My
open PySem PySem.Spec PyProof.Rows L2
section
variable {P : Program} {w : World} {K : PySem.W.Frag} {mg : Str → Option Value} {base : Heap} {ec : Ec}
theorem sc__law_rule : FnScope ["_law_state", "_law_wheel_here", "_law_other", "_law_least", "_law_off"] ["_law_state", "_law_wheel_here"] (defScope s__law_rule) := ⟨rfl, rfl, rfl, by decide +kernel, rfl, by decide +kernel, by decide +kernel⟩
theorem ok__law_rule (T : Txt K mg ec) (D : Fn K mg "_law_rule" s__law_rule) (c__law_drawn : Knows P w K mg base 1 "_law_drawn" ["_law_state", "_law_many"] (sp_drawn K)) (c__law_wheel : Knows P w K mg base 2 "_law_wheel" ["_law_state"] (sp_wheel K)) : Knows P w K mg base 3 "_law_rule" ["_law_state", "_law_wheel_here"] (sp_rule K) := by
  refine Knows.mk' D sc__law_rule (fun _ _ _ _ _ _ us hl => match us, hl with | [_, _], _ => rfl) (fun vs H Q E h => ?_) (fun f cdv A outer s H vs Q E hr h => ?_)
  · obtain ⟨a, sc, n, rfl, _⟩ := h; rfl
  · obtain ⟨a, sc, n, rfl, hD, hw, k⟩ := h
    refine ⟨_, (pss_cons (ps_set (i := 2) sc__law_rule.nd rfl (Or.inl rfl) (pe_ix ix_list (pe_lst (pa_cons (pe_op op_add pe_int (pe_callN c__law_drawn (hr.mono (by first | decide | omega)) passD (pa_cons (pv 0) (pa_cons pe_int pa_nil)))) (pa_cons (pv 1) (pa_cons (pe_callN c__law_wheel (hr.mono (by first | decide | omega)) passD (pa_cons (pv 0) pa_nil)) pa_nil)))) (pe_callN c__law_drawn (hr.mono (by first | decide | omega)) passD (pa_cons (pv 0) (pa_cons pe_int pa_nil))) (fun _ _ => rfl)))
    (pss_cons (ps_set (i := 3) sc__law_rule.nd rfl (Or.inl rfl) (pe_ix ix_list (pe_lst (pa_cons pe_int (pa_cons (pe_callN c__law_drawn (hr.mono (by first | decide | omega)) passD (pa_cons (pv 0) (pa_cons (pe_op op_mul pe_int (pv 1)) pa_nil))) (pa_cons (pe_callN c__law_drawn (hr.mono (by first | decide | omega)) passD (pa_cons (pv 0) (pa_cons (pe_op op_add (pe_powc (v := 1000000000000) ⟨by decide, by decide, by decide⟩ (by decide)) pe_int) pa_nil))) pa_nil)))) (pe_callN c__law_drawn (hr.mono (by first | decide | omega)) passD (pa_cons (pv 0) (pa_cons pe_int pa_nil))) (fun _ _ => rfl)))
    (pss_cons (ps_set (i := 4) sc__law_rule.nd rfl (Or.inl rfl) (pe_ix ix_list (pe_lst (pa_cons pe_int (pa_cons (pe_callN c__law_drawn (hr.mono (by first | decide | omega)) passD (pa_cons (pv 0) (pa_cons (pe_op op_fdivW (pe_op op_add (pv 1) pe_int) pe_int) pa_nil))) (pa_cons (pe_op op_fdivW (pe_op op_sub (pv 1) pe_int) pe_int) pa_nil)))) (pe_callN c__law_drawn (hr.mono (by first | decide | omega)) passD (pa_cons (pv 0) (pa_cons pe_int pa_nil))) (fun _ _ => rfl)))
    (pss_one (ps_ret (pe_ix ix_list (pe_lst (pa_cons (pe_tup (pa_cons pe_str (pa_cons (pe_callB (call_min2N rfl) (by rfl) T.min (by decide +kernel) (pa_cons (pv 3) (pa_cons (pe_powc (v := 1000000000000) ⟨by decide, by decide, by decide⟩ (by decide)) pa_nil))) pa_nil))) (pa_cons (pe_tup (pa_cons pe_str pa_nil)) (pa_cons (pe_tup (pa_cons pe_str (pa_cons (pv 2) pa_nil))) (pa_cons (pe_tup (pa_cons pe_str (pa_cons (pv 4) pa_nil))) pa_nil))))) (pe_callN c__law_drawn (hr.mono (by first | decide | omega)) passD (pa_cons (pv 0) (pa_cons pe_int pa_nil))) (fun _ _ => rfl))))))), ?_⟩
    refine g_start (σ := [some _, some _, none, none, none]) rfl ?_
    try dsimp only [cxOf]
    have hw1 := hw.1
    have hw2 := hw.2
    walk_at "go"
    refine ⟨a, sc, 12, rfl, hD, by decide, fun r1 H1 h10 h11 g1 => ?_⟩
    walk_at "go"
    refine ⟨a, sc, rfl, g1.dr, fun o H2 ho g2 => ?_⟩
    walk_at "go"
    intro p hp
    walk_at "go"
    refine g_pickI (zs := [2 + r1, n, o]) hp g2.dr (by decide) rfl (fun oth H3 hoth g3 => ?_)
    have hoth : Wh oth := by
      simp only [List.mem_cons, List.not_mem_nil, or_false] at hoth
      rcases hoth with e | e | e
      · subst e; exact ⟨by omega, by omega⟩
      · subst e; exact hw
      · subst e; exact ho
    have g13 := (g1.trans g2).trans g3
    walk_at "go"
    refine ⟨a, sc, _, rfl, g3.dr, ⟨by omega, by omega⟩, fun r4 H4 h40 h41 g4 => ?_⟩
    walk_at "go"
    refine ⟨a, sc, _, rfl, g4.dr, by decide, fun r5 H5 h50 h51 g5 => ?_⟩
    walk_at "go"
    intro p2 hp2
    walk_at "go"
    refine g_pickI (zs := [0, r4, r5]) hp2 g5.dr (by decide) rfl (fun lea H6 hlea g6 => ?_)
    have hlea : 0 ≤ lea := by
      simp only [List.mem_cons, List.not_mem_nil, or_false] at hlea
      omega
    have g16 := (g13.trans (g4.trans g5)).trans g6
    walk_at "go"
    refine ⟨a, sc, _, rfl, g6.dr, ⟨by omega, by omega⟩, fun r7 H7 h70 h71 g7 => ?_⟩
    walk_at "go"
    intro p3 hp3
    walk_at "go"
    refine g_pickI (zs := [0, r7, (n - 1) / 2]) hp3 g7.dr (by decide) rfl (fun off H8 hoff g8 => ?_)
    have hoff : 0 ≤ 2 * off ∧ 2 * off < n := by
      simp only [List.mem_cons, List.not_mem_nil, or_false] at hoff
      omega
    have g18 := (g16.trans g7).trans g8
    clear g16 g13 g1 g2 g3 g4 g5 g6 g7 hp hp2 hp3
    walk_at "go"
    intro t1 ht1
    walk_at "go"
    intro t2 ht2
    walk_at "go"
    intro t3 ht3
    walk_at "go"
    intro t4 ht4
    walk_at "go"
    intro p4 hp4
    have s1 := Same.new (o := .tup [V.str "up", V.int (if (1000000000000 : Int) < lea then 1000000000000 else lea)]) ht1
    have u1 : upd H8 t1 (.tup [V.str "up", V.int (if (1000000000000 : Int) < lea then 1000000000000 else lea)]) t1 = some (.tup (ruleV (.up (if (1000000000000 : Int) < lea then 1000000000000 else lea)))) := upd_same
    generalize upd H8 t1 (.tup [V.str "up", V.int (if (1000000000000 : Int) < lea then 1000000000000 else lea)]) = H9 at *
    have s2 := Same.new (o := .tup [V.str "near"]) ht2
    have u2 : upd H9 t2 (.tup [V.str "near"]) t2 = some (.tup (ruleV .near)) := upd_same
    generalize upd H9 t2 (.tup [V.str "near"]) = H10 at *
    have s3 := Same.new (o := .tup [V.str "pair", V.int oth]) ht3
    have u3 : upd H10 t3 (.tup [V.str "pair", V.int oth]) t3 = some (.tup (ruleV (.pair oth))) := upd_same
    generalize upd H10 t3 (.tup [V.str "pair", V.int oth]) = H11 at *
    have s4 := Same.new (o := .tup [V.str "about", V.int off]) ht4
    have u4 : upd H11 t4 (.tup [V.str "about", V.int off]) t4 = some (.tup (ruleV (.about off))) := upd_same
    generalize upd H11 t4 (.tup [V.str "about", V.int off]) = H12 at *
    have s14 := ((s1.trans s2).trans s3).trans s4
    have g12 := g18.then s14
    have v3 := s4 _ _ u3
    have v2 := s4 _ _ (s3 _ _ u2)
    have v1 := s4 _ _ (s3 _ _ (s2 _ _ u1))
    walk_at "go"
    refine g_pick hp4 g12.dr (by decide) rfl (fun v H13 hv _ g13 _ => ?_)
    have hta : ∀ t vs, H12 t = some (.tup vs) → t ≠ a := fun t vs e z => by
      obtain ⟨ns, i, m, l, h1, _⟩ := g12.dr.ex
      rw [z] at e
      rw [e] at h1
      cases h1
    simp only [List.mem_cons, List.not_mem_nil, or_false] at hv
    rcases hv with e | e | e | e
    · subst e
      exact k _ _ _ (show RuleOk n (.up _) from ⟨by split <;> omega, by split <;> omega⟩) (g13.at v1 (hta _ _ v1)) (g12.trans g13)
    · subst e
      exact k _ _ _ (show RuleOk n .near from trivial) (g13.at v2 (hta _ _ v2)) (g12.trans g13)
    · subst e
      exact k _ _ _ (show RuleOk n (.pair oth) from hoth) (g13.at v3 (hta _ _ v3)) (g12.trans g13)
    · subst e
      exact k _ _ _ (show RuleOk n (.about off) from hoff) (g13.at u4 (hta _ _ u4)) (g12.trans g13)
theorem sc__law_time : FnScope ["_law_state", "_law_far_here"] ["_law_state"] (defScope s__law_time) := ⟨rfl, rfl, rfl, by decide +kernel, rfl, by decide +kernel, by decide +kernel⟩
theorem ok__law_time (T : Txt K mg ec) (D : Fn K mg "_law_time" s__law_time) (c__law_drawn : Knows P w K mg base 1 "_law_drawn" ["_law_state", "_law_many"] (sp_drawn K)) : Knows P w K mg base 2 "_law_time" ["_law_state"] (sp_time K) := by
  refine Knows.mk' D sc__law_time (fun _ _ _ _ _ _ us hl => match us, hl with | [_], _ => rfl) (fun vs H Q E h => ?_) (fun f cdv A outer s H vs Q E hr h => ?_)
  · obtain ⟨a, sc, rfl, _⟩ := h; rfl
  · obtain ⟨a, sc, rfl, hD, k⟩ := h
    refine ⟨_, (pss_cons (ps_set (i := 1) sc__law_time.nd rfl (Or.inl rfl) (pe_ix ix_list (pe_lst (pa_cons pe_int (pa_cons (pe_powc (v := 1000000) ⟨by decide, by decide, by decide⟩ (by decide)) (pa_cons (pe_powc (v := 1000000000000000000000000000000) ⟨by decide, by decide, by decide⟩ (by decide)) pa_nil)))) (pe_callN c__law_drawn (hr.mono (by first | decide | omega)) passD (pa_cons (pv 0) (pa_cons pe_int pa_nil))) (fun _ _ => rfl)))
    (pss_one (ps_ret (pe_op op_sub (pe_callN c__law_drawn (hr.mono (by first | decide | omega)) passD (pa_cons (pv 0) (pa_cons (pv 1) pa_nil))) (pe_op op_mul (pe_callN c__law_drawn (hr.mono (by first | decide | omega)) passD (pa_cons (pv 0) (pa_cons pe_int pa_nil))) (pv 1)))))), ?_⟩
    refine g_start (σ := [some _, none]) rfl ?_
    try dsimp only [cxOf]
    walk_at "go"
    intro p hp
    walk_at "go"
    refine g_pickI (zs := [100, 1000000, 1000000000000000000000000000000]) hp hD (by decide) rfl (fun far H1 hfar g1 => ?_)
    have hfar : Mn far := by
      simp only [List.mem_cons, List.not_mem_nil, or_false] at hfar
      rcases hfar with e | e | e <;> subst e <;> decide
    walk_at "go"
    refine ⟨a, sc, far, rfl, g1.dr, hfar, fun r2 H2 h20 h21 g2 => ?_⟩
    walk_at "go"
    refine ⟨a, sc, 2, rfl, g2.dr, by decide, fun r3 H3 h30 h31 g3 => ?_⟩
    walk_at "go"
    exact k _ _ ((g1.trans g2).trans g3)
end
end My
namespace My
open PySem PySem.Spec PyProof.Rows L2
theorem int_gd {ts : List Int} {k : Nat} (h : k < ts.length) : atI (ts.map V.int) (0 + (k : Int)) = some (.int (ts.getD k 0)) := by
  rw [Int.zero_add]
  refine atI_nat ?_
  rw [List.getElem?_map, List.getElem?_eq_getElem h, List.getD_eq_getElem?_getD, List.getElem?_eq_getElem h]
  rfl
def farJ (n b : Int) (ns : List Int) (j : Nat) : Int × Int := (far n b (ns.getD j 0), (j : Int))
/-- what a reference to a pair of ints reads as -/
def pairOf (H : Hp) : V → Int × Int
  | .ref t => match H t with
    | some (.tup [.int i, .int j]) => (i, j)
    | _ => (0, 0)
  | _ => (0, 0)
theorem pairOf_at {H : Hp} {t : Addr} {i j : Int} (h : H t = some (.tup [.int i, .int j])) : pairOf H (.ref t) = (i, j) := by
  simp only [pairOf, h]
theorem ordered_of {n b : Int} {ns : List Int} {zs : List (Int × Int)} (hp : zs.Perm ((List.range ns.length).map (farJ n b ns))) (hs : zs.Pairwise fun x y => SrtO.lexB y x = false) :
    Ordered n b ns (zs.map fun z => z.2.toNat) ∧ (zs.map fun z => V.int z.2) = natsV (zs.map fun z => z.2.toNat) := by
  have mem : ∀ z ∈ zs, z = farJ n b ns z.2.toNat := fun z hz => by
    obtain ⟨j, _, e⟩ := List.mem_map.mp (hp.mem_iff.mp hz)
    rw [← e]
    rfl
  have p2 : (zs.map fun z => z.2.toNat).Perm (List.range ns.length) := by
    have := hp.map (fun z : Int × Int => z.2.toNat)
    rw [List.map_map] at this
    have e : ((fun z : Int × Int => z.2.toNat) ∘ farJ n b ns) = id := by
      funext j
      rfl
    rw [e, List.map_id] at this
    exact this
  have nd : (zs.map fun z => z.2.toNat).Nodup := p2.nodup_iff.mpr List.nodup_range
  refine ⟨⟨p2, ?_⟩, ?_⟩
  · have nd2 : zs.Pairwise fun x y => x.2.toNat ≠ y.2.toNat := List.pairwise_map.mp nd
    refine List.pairwise_map.mpr ?_
    have both := List.pairwise_and_iff.mpr ⟨hs, nd2⟩
    refine List.Pairwise.imp_of_mem (fun {x y} hx hy hxy => ?_) both
    obtain ⟨h1, h2⟩ := hxy
    have ex := mem x hx
    have ey := mem y hy
    generalize x.2.toNat = i at *
    generalize y.2.toNat = j at *
    subst ex ey
    have h := SrtO.lexB_no.mp h1
    unfold farJ at h
    unfold LtP
    simp only at h
    omega
  · unfold natsV
    rw [List.map_map]
    refine List.map_congr_left fun z hz => ?_
    have e := mem z hz
    show V.int z.2 = V.int ((z.2.toNat : Nat) : Int)
    rw [e]
    rfl
theorem filt_more {ms : List Int} {i : Nat} {b : Int} {p : Int → Bool} (h : ms[i]? = some b) : (ms.take (i + 1)).filter p = if p b = true then (ms.take i).filter p ++ [b] else (ms.take i).filter p := by
  rw [take_more h, List.filter_append]
  by_cases z : p b = true
  · rw [if_pos z, List.filter_cons_of_pos z]
    rfl
  · rw [if_neg z, List.filter_cons_of_neg z]
    simp
theorem mem_bgs {n sp : Int} {ns ms : List Int} (h : ∀ k, k ∈ ms ↔ decide (k ∈ ns) = true) (b : Int) : b ∈ ms.filter (fun b => decide (∀ x ∈ ns, far n b x ≤ sp)) ↔ Bg n sp ns b := by
  rw [List.mem_filter, h]
  simp only [decide_eq_true_eq]
  exact Iff.rfl
end My
namespace My
open PySem PySem.Spec PyProof.Rows L2
section
variable {P : Program} {w : World} {K : PySem.W.Frag} {mg : Str → Option Value} {base : Heap} {ec : Ec}
theorem sc_arranged : FnScope ["wheel", "span", "seen", "begins", "one", "other", "far", "place", "k"] ["wheel", "span", "seen"] (defScope s_arranged) := ⟨rfl, rfl, rfl, by decide +kernel, rfl, by decide +kernel, by decide +kernel⟩
theorem ok_arranged (T : Txt K mg ec) (D : Fn K mg "arranged" s_arranged) (c_need_wheel : Knows P w K mg base 2 "need_wheel" ["wheel"] (sp_need_wheel ec)) (c_need_row : Knows P w K mg base 2 "need_row" ["wheel", "seen"] (sp_need_row K ec)) (c_since_of : Knows P w K mg base 1 "since_of" ["wheel", "one", "other"] sp_since_of) : Knows P w K mg base 3 "arranged" ["wheel", "span", "seen"] (sp_arranged K ec) := by
  refine Knows.mk' D sc_arranged (fun _ _ _ _ _ _ us hl => match us, hl with | [_, _, _], _ => rfl) (fun vs H Q E h => ?_) (fun f cdv A outer s H vs Q E hr h => ?_)
  · obtain ⟨n, sp, a, ns, rfl, _⟩ := h; rfl
  · obtain ⟨n, sp, a, ns, rfl, hS, k1, k2, k3, k4, k5, k6, k7⟩ := h
    refine ⟨_, (pss_cons (ps_expr (pe_callN c_need_wheel (hr.mono (by first | decide | omega)) passD (pa_cons (pv 0) pa_nil)))
    (pss_cons (ps_if (pt_not (pt_chain op_le op_lt pe_int (pv 1) (pv 0))) (pss_one (ps_raiseN T.x_BadSpan)) pss_nil)
    (pss_cons (ps_expr (pe_callN c_need_row (hr.mono (by first | decide | omega)) passD (pa_cons (pv 0) (pa_cons (pv 2) pa_nil))))
    (pss_cons (ps_if (pt_cmpR (op_eqD hr.units) (pv 2) (pe_lst pa_nil) (nomark _)) (pss_one (ps_ret (pe_lst pa_nil))) pss_nil)
    (pss_cons (ps_set (i := 3) sc_arranged.nd rfl (Or.inr rfl) (pe_lc (own := [("one", 4)]) (g := gName 4) rfl sc_arranged.nd (pi_list (pe_callB (cr_sortedSet rfl) (by rfl) T.sorted (by decide +kernel) (pa_cons (pe_callTy (r := rSetL K w) (cr_setL rfl) (by rfl) T.set (by decide +kernel) (pa_cons (pv 2) pa_nil)) pa_nil))) (blkOk_by (own := [("one", 4)]) (N := ["wheel", "span", "seen", "begins", "one", "other", "far", "place", "k"]) (sc := defScope s_arranged) (by decide +kernel)) (fun _ _ _ _ _ => (pg_name (i := 4) sc_arranged.nd rfl (Or.inr rfl))) (fun _ _ _ _ _ => (pts_one (pt_cmpR op_le (pe_callB (r := rMax K) (cr_max rfl) (by rfl) T.max (by decide +kernel) (pa_cons (by exact pe_lc (own := [("other", 5)]) (g := gName 5) (tt := tYes) (wi := iList K (tVar 2)) rfl sc_arranged.nd (pi_list (pv 2)) (blkOk_by2 (own := [("other", 5)]) (N := ["wheel", "span", "seen", "begins", "one", "other", "far", "place", "k"]) (sc := defScope s_arranged) rfl (by decide +kernel)) (fun _ _ _ _ _ => (pg_name (i := 5) sc_arranged.nd rfl (Or.inl rfl))) (fun _ _ _ _ _ => pts_nil) (fun _ _ _ _ _ => (pe_callN c_since_of (hr.mono (by first | decide | omega)) passL (pa_cons (pv 0) (pa_cons (pv 4) (pa_cons (pv 5) pa_nil)))))) pa_nil)) (pv 1) (nomark _)))) (fun _ _ _ _ _ => (pv 4))))
    (pss_cons (ps_if (pt_cmpR (op_eqD hr.units) (pv 3) (pe_lst pa_nil) (nomark _)) (pss_one (ps_raiseN T.x_NoSpan)) pss_nil)
    (pss_cons (ps_if (pt_cmpR op_gt (pe_callB call_lenN (by rfl) T.len PySem.boot_len (pa_cons (pv 3) pa_nil)) pe_int (nomark _)) (pss_one (ps_ret pe_non)) pss_nil)
    (pss_one (ps_ret (pe_lc (own := [("far", 6), ("place", 7)]) (g := gTup K 2 (gCons (gName 6) (gCons (gName 7) (gNil)))) (tt := tYes) rfl sc_arranged.nd (pi_list (pe_callB cr_sortedPO (by rfl) T.sorted (by decide +kernel) (pa_cons (pe_lc (own := [("k", 8)]) (g := gName 8) (tt := tYes) rfl sc_arranged.nd (pi_range1 (by rfl) T.range (pa_cons (pe_callB call_lenN (by rfl) T.len PySem.boot_len (pa_cons (pv 2) pa_nil)) pa_nil)) (blkOk_by (own := [("k", 8)]) (N := ["wheel", "span", "seen", "begins", "one", "other", "far", "place", "k"]) (sc := defScope s_arranged) (by decide +kernel)) (fun _ _ _ _ _ => (pg_name (i := 8) sc_arranged.nd rfl (Or.inl rfl))) (fun _ _ _ _ _ => pts_nil) (fun _ _ _ _ _ => (pe_tup (pa_cons (pe_callN c_since_of (hr.mono (by first | decide | omega)) passL (pa_cons (pv 0) (pa_cons (pe_ix (r := rIxL K) ix_list (pv 3) pe_int (fun _ _ => rfl)) (pa_cons (pe_ix (r := rIxL K) ix_list (pv 2) (pv 8) (fun _ _ => rfl)) pa_nil)))) (pa_cons (pv 8) pa_nil))))) pa_nil))) (blkOk_by (own := [("far", 6), ("place", 7)]) (N := ["wheel", "span", "seen", "begins", "one", "other", "far", "place", "k"]) (sc := defScope s_arranged) (by decide +kernel)) (fun _ _ _ _ _ => (pg_tup (n := 2) rfl (pgs_cons (pg_name (i := 6) sc_arranged.nd rfl (Or.inl rfl)) (pgs_cons (pg_name (i := 7) sc_arranged.nd rfl (Or.inl rfl)) pgs_nil)))) (fun _ _ _ _ _ => pts_nil) (fun _ _ _ _ _ => (pv 7)))))))))))), ?_⟩
    refine g_start (σ := [some _, some _, some _, none, none, none, none, none, none]) rfl ?_
    try dsimp only [cxOf]
    walk_at "go"
    refine ⟨n, rfl, fun hw => ?_, k4⟩
    have hn0 : 0 < n := by have := hw.1; omega
    walk_at "goS"
    refine g_cutS (fun σ' H' => σ' = [some (.int n), some (.int sp), some (.ref a), none, none, none, none, none, none] ∧ H' = H ∧ Se n sp) (fun N hN => ?_) ?_
    · walk_at "go"
      refine ite_dec (fun h1 => ?_) (fun h1 => ?_)
      · walk_at "go"
        refine ite_ndec (fun h2 => ?_) (fun h2 => ?_)
        · exact k5 hw fun z => h2 z.2
        · walk_at "go"
          exact hN _ _ ⟨rfl, rfl, h1, h2⟩
      · walk_at "go"
        exact k5 hw fun z => h1 z.1
    · rintro σ' H' ⟨rfl, rfl, hsp⟩
      walk_at "go"
      refine ⟨n, a, ns, rfl, hS, fun hrow => ?_, fun hrow => k6 hw hsp hrow⟩
      walk_at "goS"
      refine g_ifS ?_
      walk_at "goS"
      intro p1 hp1
      refine g_eqInts (ms := []) ((Same.new hp1).seq hS) (SqL.of upd_same) ?_
      walk_at "goS"
      refine ite_dec (fun h1 => ?_) (fun h1 => ?_)
      · walk_at "go"
        intro p2 hp2
        refine k1 hw hsp hrow h1 p2 _ ?_ ((Same.new hp1).trans (Same.new hp2)) upd_same
        cases z : H' p2 with
        | none => rfl
        | some o => rw [Same.new hp1 _ _ z] at hp2; cases hp2
      · have hne : ns ≠ [] := h1
        have hpos : 0 < ns.length := List.length_pos_iff.mpr hne
        have hlen : ns.length ≤ 60 := hrow.1
        have e1 := Same.new hp1 (o := .lst [])
        generalize upd H' p1 (.lst []) = H1 at *
        have hS1 := e1.seq hS
        walk_at "go1"
        try dsimp only
        walk_at "goS"
        refine ⟨a, ns, rfl, hS1, by omega, fun aS c haS hc => ?_⟩
        have e2 := e1.trans (Same.new haS (o := SetO w aS (fun j => decide (j ∈ ns)) c))
        have uS : upd H1 aS (SetO w aS (fun j => decide (j ∈ ns)) c) aS = some (SetO w aS (fun j => decide (j ∈ ns)) c) := upd_same
        generalize upd H1 aS (SetO w aS (fun j => decide (j ∈ ns)) c) = H2 at *
        walk_at "goS"
        refine ⟨aS, _, c, rfl, uS, by omega, fun ms p3 hms hmem hml hp3 => ?_⟩
        have e3 := e2.trans (Same.new hp3 (o := .lst (List.map V.int ms)))
        have u3 : upd H2 p3 (.lst (List.map V.int ms)) p3 = some (.lst (List.map V.int ms)) := upd_same
        generalize upd H2 p3 (.lst (List.map V.int ms)) = H3 at *
        clear e1 e2 uS hp1 haS hp3 hS1
        have hS3 := e3.seq hS
        walk_at "goS"
        refine ⟨⟨_, SqL.of u3⟩, fun D nD => ?_⟩
        refine lc_L (fun i acc H => Same H3 H ∧ acc = ((ms.take i).filter (fun b => decide (∀ x ∈ ns, far n b x ≤ sp))).map V.int) (fun i acc H o h => ⟨Same.mut h.1 nD, h.2⟩) ⟨Same.refl _, rfl⟩ (fun i acc H h => h.1.seq (SqL.of u3)) ?_ ?_
        · rintro i v acc H4 hx ⟨e4, rfl⟩ hDl hle
          have hil : i < 100000 := by
            have := (List.getElem?_eq_some_iff.mp hx).1
            rw [List.length_map] at this
            omega
          obtain ⟨b, rfl, hb⟩ := int_at hx
          walk_at "wp"
          walk_at "go"
          refine ⟨rfl, ?_⟩
          walk_at "goS"
          have hS4 := e4.seq hS3
          refine ⟨⟨_, hS4⟩, fun D2 nD2 => ?_⟩
          refine lc_L (fun j acc H => Same H4 H ∧ acc = (ns.take j).map (fun x => V.int (far n b x))) (fun i acc H o h => ⟨Same.mut h.1 nD2, h.2⟩) ⟨Same.refl _, rfl⟩ (fun i acc H h => h.1.seq hS4) ?_ ?_
          · rintro j v acc2 H5 hx2 ⟨e5, rfl⟩ hDl2 hle2
            have hjl : j < 100000 := by
              have := (List.getElem?_eq_some_iff.mp hx2).1
              rw [List.length_map] at this
              omega
            obtain ⟨x, rfl, hx3⟩ := int_at hx2
            walk_at "wp"
            walk_at "go"
            refine ⟨rfl, ?_⟩
            walk_at "go"
            refine ⟨n, b, x, rfl, hn0, ?_⟩
            refine lc_leaf (J := fun j acc H => Same H4 H ∧ acc = (ns.take j).map (fun x => V.int (far n b x))) (fun i acc H o h => ⟨Same.mut h.1 nD2, h.2⟩) hDl2 hle2 hjl ⟨e5, ?_⟩
            rw [take_more hx3, List.map_append]
            rfl
          · rintro acc2 H5 ⟨e5, rfl⟩ u5
            rw [List.length_map, List.take_length] at u5
            walk_at "goS"
            refine ⟨D2, ns.map (far n b), rfl, SqL.of (by rw [u5, List.map_map]; rfl), by rw [List.length_map]; exact hpos, fun m hm hmax => ?_⟩
            walk_at "goS"
            have key : m ≤ sp ↔ ∀ x ∈ ns, far n b x ≤ sp := by
              obtain ⟨x0, hx0, rfl⟩ := List.mem_map.mp hm
              exact ⟨fun h x hx => Int.le_trans (hmax _ (List.mem_map.mpr ⟨x, hx, rfl⟩)) h, fun h => h x0 hx0⟩
            have hDl5 := e5 _ _ hDl
            refine ite_dec (fun h2 => ?_) (fun h2 => ?_)
            · walk_at "go"
              refine lc_leaf (J := fun i acc H => Same H3 H ∧ acc = ((ms.take i).filter (fun b => decide (∀ x ∈ ns, far n b x ≤ sp))).map V.int) (fun i acc H o h => ⟨Same.mut h.1 nD, h.2⟩) hDl5 hle hil ⟨e4.trans e5, ?_⟩
              rw [filt_more hb, if_pos (decide_eq_true (key.mp h2)), List.map_append]
              rfl
            · refine lc_skip hDl5 hle ⟨e4.trans e5, ?_⟩
              rw [filt_more hb, if_neg (fun z => h2 (key.mpr (of_decide_eq_true z)))]
        · rintro acc H4 ⟨e4, rfl⟩ u4
          rw [List.length_map, List.take_length] at u4
          have mem := mem_bgs (n := n) (sp := sp) hmem
          have srt : (ms.filter (fun b => decide (∀ x ∈ ns, far n b x ≤ sp))).Pairwise (· < ·) := hms.filter _
          have bl : (ms.filter (fun b => decide (∀ x ∈ ns, far n b x ≤ sp))).length ≤ 60 := Nat.le_trans (List.length_filter_le _ _) (by omega)
          generalize ms.filter (fun b => decide (∀ x ∈ ns, far n b x ≤ sp)) = bs at *
          have e34 := e3.trans e4
          have hS4 := e34.seq hS
          clear e4 hS3 u3 nD e3
          walk_at "goS"
          refine g_ifS ?_
          walk_at "goS"
          intro p5 hp5
          refine g_eqInts (ns := bs) (ms := []) (SqL.of (upd_old u4 hp5)) (SqL.of upd_same) ?_
          have e5 := e34.trans (Same.new hp5 (o := .lst []))
          have u5 := upd_old u4 hp5 (u := .lst [])
          generalize upd H4 p5 (.lst []) = H5 at *
          have hS5 := e5.seq hS
          clear e34 u4 hp5 hS4
          walk_at "goS"
          refine ite_dec (fun h2 => ?_) (fun h2 => ?_)
          · exact k7 hw hsp hrow hne (fun b hb => by
              have := (mem b).mpr hb
              rw [h2] at this
              cases this) _ e5
          · walk_at "go1"
            try dsimp only
            walk_at "goS"
            refine g_ifS ?_
            walk_at "goS"
            refine g_lenL (SqL.of u5) ?_
            rw [List.length_map]
            walk_at "goS"
            refine ite_dec (fun h3 => ?_) (fun h3 => ?_)
            · walk_at "go"
              match bs, h3 with
              | b :: b' :: r, _ =>
                have lt : b < b' := (List.pairwise_cons.mp srt).1 b' (by simp)
                exact k2 hw hsp hrow b b' ((mem b).mp (by simp)) ((mem b').mp (by simp)) (by omega) _ e5
              | [b], h3 => exact absurd h3 (by simp)
            · obtain ⟨b, rfl⟩ : ∃ b, bs = [b] := by
                match bs, h2, h3 with
                | [b], _, _ => exact ⟨b, rfl⟩
                | [], h2, _ => exact absurd rfl h2
                | b :: b' :: r, _, h3 => exact absurd (show ((b :: b' :: r).length : Int) > 1 by simp; omega) h3
              have hb := (mem b).mp (by simp)
              have hu : ∀ b', Bg n sp ns b' → b' = b := fun b' h => List.mem_singleton.mp ((mem b').mpr h)
              walk_at "go1"
              try dsimp only
              walk_at "goS"
              refine g_lenL hS5 ?_
              rw [List.length_map]
              walk_at "goS"
              refine ⟨by omega, by omega, fun D6 nD6 => ?_⟩
              refine lc_R 0 ns.length (fun j acc H => Same H5 H ∧ acc.length = j ∧ ∀ (m : Nat) v, acc[m]? = some v → ∃ t, v = .ref t ∧ t ≠ D6 ∧ H t = some (.tup [.int (far n b (ns.getD m 0)), .int (m : Int)])) (fun j acc H o h => ⟨Same.mut h.1 nD6, h.2.1, fun m v hv => by
                obtain ⟨t, e1, e2, e3⟩ := h.2.2 m v hv
                exact ⟨t, e1, e2, by rw [upd_ne e2]; exact e3⟩⟩) ⟨Same.refl _, rfl, fun m v hv => by simp at hv⟩ ?_ ?_
              · rintro j acc H6 hj ⟨e6, hal, hat⟩ hDl hle
                walk_at "wp"
                walk_at "go"
                refine ⟨rfl, ?_⟩
                walk_at "go"
                refine g_ixL (SqL.of (e6 _ _ u5)) (v := .int b) rfl ?_
                walk_at "go"
                refine g_ixL (e6.seq hS5) (int_gd hj) ?_
                walk_at "go"
                refine ⟨n, b, _, rfl, hn0, ?_⟩
                walk_at "go"
                intro t ht
                have et := Same.new ht (o := .tup [V.int ((ns.getD j 0 - b) % n), V.int (0 + (j : Int))])
                have ntD : t ≠ D6 := (ne_of_none hDl ht).symm
                refine lc_leaf (J := fun j acc H => Same H5 H ∧ acc.length = j ∧ ∀ (m : Nat) v, acc[m]? = some v → ∃ t, v = .ref t ∧ t ≠ D6 ∧ H t = some (.tup [.int (far n b (ns.getD m 0)), .int (m : Int)])) (fun j acc H o h => ⟨Same.mut h.1 nD6, h.2.1, fun m v hv => by
                  obtain ⟨t, e1, e2, e3⟩ := h.2.2 m v hv
                  exact ⟨t, e1, e2, by rw [upd_ne e2]; exact e3⟩⟩) (et _ _ hDl) hle (by omega) ⟨e6.trans et, by rw [List.length_append, hal]; rfl, fun m v hv => ?_⟩
                by_cases hm : m < acc.length
                · rw [List.getElem?_append_left hm] at hv
                  obtain ⟨t2, e1, e2, e3⟩ := hat m v hv
                  exact ⟨t2, e1, e2, et _ _ e3⟩
                · rw [List.getElem?_append_right (by omega)] at hv
                  have hm0 : m = acc.length := by
                    have := (List.getElem?_eq_some_iff.mp hv).1
                    simp at this
                    omega
                  subst hm0
                  rw [Nat.sub_self] at hv
                  cases hv
                  refine ⟨t, rfl, ntD, ?_⟩
                  rw [upd_same, hal, Int.zero_add]
                  rfl
              · rintro acc H6 ⟨e6, hal, hat⟩ u6
                walk_at "goS"
                have pk : ∀ (m : Nat) v, acc[m]? = some v → pairOf H6 v = farJ n b ns m := fun m v hv => by
                  obtain ⟨t, rfl, _, e3⟩ := hat m v hv
                  exact pairOf_at e3
                have inx : ∀ v ∈ acc, ∃ t, v = .ref t ∧ H6 t = some (.tup [.int (pairOf H6 v).1, .int (pairOf H6 v).2]) := fun v hv => by
                  obtain ⟨m, hm⟩ := List.mem_iff_getElem?.mp hv
                  obtain ⟨t, rfl, _, e3⟩ := hat m v hm
                  refine ⟨t, rfl, ?_⟩
                  rw [pairOf_at e3]
                  exact e3
                refine ⟨D6, acc, pairOf H6, rfl, SqL.of u6, inx, fun ys p7 hsr hst hp7 => ?_⟩
                have e7 := Same.new hp7 (o := .lst ys)
                have u7 : upd H6 p7 (.lst ys) p7 = some (.lst ys) := upd_same
                have hmap : acc.map (pairOf H6) = (List.range ns.length).map (farJ n b ns) := by
                  refine List.ext_getElem? fun m => ?_
                  rw [List.getElem?_map, List.getElem?_map]
                  cases hm : acc[m]? with
                  | none =>
                    rw [List.getElem?_eq_none_iff, hal] at hm
                    rw [List.getElem?_eq_none (by rw [List.length_range]; exact hm)]
                    rfl
                  | some v =>
                    have lt := (List.getElem?_eq_some_iff.mp hm).1
                    rw [List.getElem?_range (by omega)]
                    exact congrArg some (pk m v hm)
                have pm : (ys.map (pairOf H6)).Perm ((List.range ns.length).map (farJ n b ns)) := by
                  rw [← hmap]
                  exact hst.perm.map _
                have psr : (ys.map (pairOf H6)).Pairwise fun x y => SrtO.lexB y x = false := List.pairwise_map.mpr hsr
                obtain ⟨ord, val⟩ := ordered_of pm psr
                have yl : ys.length ≤ 60 := by
                  rw [hst.perm.length_eq, hal]
                  exact hlen
                have iny : ∀ v ∈ ys, ∃ t, v = .ref t ∧ upd H6 p7 (.lst ys) t = some (.tup [.int (pairOf H6 v).1, .int (pairOf H6 v).2]) := fun v hv => by
                  obtain ⟨t, e1, e2⟩ := inx v (hst.perm.mem_iff.mp hv)
                  exact ⟨t, e1, e7 _ _ e2⟩
                have e57 := (e5.trans e6).trans e7
                generalize upd H6 p7 (.lst ys) = H7 at *
                walk_at "goS"
                refine ⟨⟨_, SqL.of u7⟩, fun D8 nD8 => ?_⟩
                refine lc_L (fun i acc H => Same H7 H ∧ acc = (ys.take i).map (fun v => V.int (pairOf H6 v).2)) (fun i acc H o h => ⟨Same.mut h.1 nD8, h.2⟩) ⟨Same.refl _, rfl⟩ (fun i acc H h => h.1.seq (SqL.of u7)) ?_ ?_
                · rintro i v acc H8 hx ⟨e8, rfl⟩ hDl hle
                  obtain ⟨t, rfl, ht⟩ := iny v (List.mem_of_getElem? hx)
                  have hil := (List.getElem?_eq_some_iff.mp hx).1
                  walk_at "wp"
                  refine g_tup2 (SqT.of (e8 _ _ ht)) ?_
                  walk_at "go"
                  refine ⟨rfl, ?_⟩
                  walk_at "go"
                  refine lc_leaf (J := fun i acc H => Same H7 H ∧ acc = (ys.take i).map (fun v => V.int (pairOf H6 v).2)) (fun i acc H o h => ⟨Same.mut h.1 nD8, h.2⟩) hDl hle (by omega) ⟨e8, ?_⟩
                  rw [take_more hx, List.map_append]
                  rfl
                · rintro acc H8 ⟨e8, rfl⟩ u8
                  rw [List.take_length, show (ys.map fun v => V.int (pairOf H6 v).2) = natsV ((ys.map (pairOf H6)).map fun z => z.2.toNat) from by rw [← val, List.map_map]; rfl] at u8
                  refine k3 hw hsp hrow b _ hb hu ord D8 H8 ?_ (e57.trans e8) u8
                  cases z : H' D8 with
                  | none => rfl
                  | some o => rw [e57 _ _ z] at nD8; cases nD8
end
end My
namespace My
open PySem PySem.Spec PyProof.Rows L2
section
variable {P : Program} {w : World} {K : PySem.W.Frag} {mg : Str → Option Value} {base : Heap} {ec : Ec}
theorem sc__law_far : FnScope ["_law_state", "_law_least", "_law_most", "_law_far_here"] ["_law_state", "_law_least", "_law_most"] (defScope s__law_far) := ⟨rfl, rfl, rfl, by decide +kernel, rfl, by decide +kernel, by decide +kernel⟩
theorem ok__law_far (T : Txt K mg ec) (D : Fn K mg "_law_far" s__law_far) (c__law_drawn : Knows P w K mg base 1 "_law_drawn" ["_law_state", "_law_many"] (sp_drawn K)) : Knows P w K mg base 2 "_law_far" ["_law_state", "_law_least", "_law_most"] (sp_far K) := by
  refine Knows.mk' D sc__law_far (fun _ _ _ _ _ _ us hl => match us, hl with | [_, _, _], _ => rfl) (fun vs H Q E h => ?_) (fun f cdv A outer s H vs Q E hr h => ?_)
  · obtain ⟨a, sc, l, m, rfl, _⟩ := h; rfl
  · obtain ⟨a, sc, l, m, rfl, hD, k⟩ := h
    refine ⟨_, (pss_cons (ps_set (i := 3) sc__law_far.nd rfl (Or.inl rfl) (pe_ix ix_list (pe_lst (pa_cons pe_int (pa_cons pe_int (pa_cons (pe_powc (v := 100000000000000000000000000000) ⟨by decide, by decide, by decide⟩ (by decide)) pa_nil)))) (pe_callN c__law_drawn (hr.mono (by first | decide | omega)) passD (pa_cons (pv 0) (pa_cons pe_int pa_nil))) (fun _ _ => rfl)))
    (pss_one (ps_ret (pe_ix ix_list (pe_lst (pa_cons (pe_op op_sub (pe_op op_sub (pv 1) pe_int) (pe_callN c__law_drawn (hr.mono (by first | decide | omega)) passD (pa_cons (pv 0) (pa_cons (pv 3) pa_nil)))) (pa_cons (pe_op op_add (pe_op op_add (pv 2) pe_int) (pe_callN c__law_drawn (hr.mono (by first | decide | omega)) passD (pa_cons (pv 0) (pa_cons (pv 3) pa_nil)))) pa_nil))) (pe_callN c__law_drawn (hr.mono (by first | decide | omega)) passD (pa_cons (pv 0) (pa_cons pe_int pa_nil))) (fun _ _ => rfl))))), ?_⟩
    refine g_start (σ := [some _, some _, some _, none]) rfl ?_
    try dsimp only [cxOf]
    walk_at "go"
    intro p hp
    walk_at "go"
    refine g_pickI (zs := [1, 20, 100000000000000000000000000000]) hp hD (by decide) rfl (fun w H1 hw g1 => ?_)
    have hw : Mn w := by
      simp only [List.mem_cons, List.not_mem_nil, or_false] at hw
      rcases hw with e | e | e <;> subst e <;> decide
    walk_at "go"
    refine ⟨a, sc, w, rfl, g1.dr, hw, fun r2 H2 h20 h21 g2 => ?_⟩
    walk_at "go"
    refine ⟨a, sc, w, rfl, g2.dr, hw, fun r3 H3 h30 h31 g3 => ?_⟩
    walk_at "go"
    intro p2 hp2
    walk_at "go"
    refine g_pickI (zs := [l - 1 - r2, m + 1 + r3]) hp2 g3.dr (by decide) rfl (fun z H4 hz g4 => ?_)
    simp only [List.mem_cons, List.not_mem_nil, or_false] at hz
    exact k z _ (by omega) (((g1.trans g2).trans g3).trans g4)
end
end My
namespace My
open PySem PySem.Spec PyProof.Rows L2
section
variable {P : Program} {w : World} {K : PySem.W.Frag} {mg : Str → Option Value} {base : Heap} {ec : Ec}
theorem sc__law_seen : FnScope ["_law_state", "_law_wheel_here", "_law_most", "_law_begin", "_law_wide", "_law_times", "_law_k", "_law_time_here"] ["_law_state", "_law_wheel_here", "_law_most"] (defScope s__law_seen) := ⟨rfl, rfl, rfl, by decide +kernel, rfl, by decide +kernel, by decide +kernel⟩
theorem ok__law_seen (T : Txt K mg ec) (D : Fn K mg "_law_seen" s__law_seen) (c__law_time : Knows P w K mg base 2 "_law_time" ["_law_state"] (sp_time K)) (c__law_drawn : Knows P w K mg base 1 "_law_drawn" ["_law_state", "_law_many"] (sp_drawn K)) : Knows P w K mg base 3 "_law_seen" ["_law_state", "_law_wheel_here", "_law_most"] (sp_lseen K) := by
  refine Knows.mk' D sc__law_seen (fun _ _ _ _ _ _ us hl => match us, hl with | [_, _, _], _ => rfl) (fun vs H Q E h => ?_) (fun f cdv A outer s H vs Q E hr h => ?_)
  · obtain ⟨a, sc, n, m, rfl, _⟩ := h; rfl
  · obtain ⟨a, sc, n, m, rfl, hD, hw, hm0, hm1, k⟩ := h
    refine ⟨_, (pss_cons (ps_set (i := 3) sc__law_seen.nd rfl (Or.inr rfl) (pe_callN c__law_time (hr.mono (by first | decide | omega)) passD (pa_cons (pv 0) pa_nil)))
    (pss_cons (ps_set (i := 4) sc__law_seen.nd rfl (Or.inr rfl) (pe_lst (pa_cons (pe_callN c__law_drawn (hr.mono (by first | decide | omega)) passD (pa_cons (pv 0) (pa_cons (pv 1) pa_nil))) (pa_cons (pe_callN c__law_drawn (hr.mono (by first | decide | omega)) passD (pa_cons (pv 0) (pa_cons (pe_op op_fdivW (pe_op op_add (pv 1) pe_int) pe_int) pa_nil))) (pa_cons (pe_callN c__law_drawn (hr.mono (by first | decide | omega)) passD (pa_cons (pv 0) (pa_cons pe_int pa_nil))) pa_nil)))))
    (pss_cons (ps_set (i := 4) sc__law_seen.nd rfl (Or.inr rfl) (pe_op op_add pe_int (pe_ix ix_list (pv 4) (pe_callN c__law_drawn (hr.mono (by first | decide | omega)) passD (pa_cons (pv 0) (pa_cons pe_int pa_nil))) (fun _ _ => rfl))))
    (pss_cons (ps_setLc (i := 5) (own := [("_law_k", 6)]) (g := gName 6) (tt := tYes) rfl sc__law_seen.nd rfl rfl (sw_true rfl rfl rfl (by decide +kernel)) (pi_range1 (by rfl) T.range (pa_cons (pe_callN c__law_drawn (hr.mono (by first | decide | omega)) passD (pa_cons (pv 0) (pa_cons (pe_op op_add (pv 2) pe_int) pa_nil))) pa_nil)) (blkOk_by (own := [("_law_k", 6)]) (N := ["_law_state", "_law_wheel_here", "_law_most", "_law_begin", "_law_wide", "_law_times", "_law_k", "_law_time_here"]) (sc := defScope s__law_seen) (by decide +kernel)) (fun _ _ _ _ _ => (pg_name (i := 6) sc__law_seen.nd rfl (Or.inl rfl))) (fun _ _ _ _ _ => pts_nil) (fun _ _ _ _ _ => (pe_op op_add (pv 3) (pe_callN c__law_drawn (hr.mono (by first | decide | omega)) passL (pa_cons (pv 0) (pa_cons (pv 4) pa_nil))))))
    (pss_cons (ps_if (PW.pt (pw_and (pt_cmpR (op_neD hr.units) (pv 5) (pe_lst pa_nil) (nomark _)) (pw_and1 (pt_cmpR op_eq (pe_callN c__law_drawn (hr.mono (by first | decide | omega)) passD (pa_cons (pv 0) (pa_cons pe_int pa_nil))) pe_int (nomark _))))) (pss_one (ps_expr (pe_bm PySem.F.plainAttrs_list PySem.F.slot_list_append PySem.F.type_list_append mt_append (pv 5) (pa_cons (pe_ix ix_list (pv 5) pe_int (fun _ _ => rfl)) pa_nil)))) pss_nil)
    (pss_one (ps_ret (pe_tup (pa_cons (pv 5) (pa_cons (pe_lc (own := [("_law_time_here", 7)]) (g := gName 7) (tt := tYes) rfl sc__law_seen.nd (pi_list (pv 5)) (blkOk_by (own := [("_law_time_here", 7)]) (N := ["_law_state", "_law_wheel_here", "_law_most", "_law_begin", "_law_wide", "_law_times", "_law_k", "_law_time_here"]) (sc := defScope s__law_seen) (by decide +kernel)) (fun _ _ _ _ _ => (pg_name (i := 7) sc__law_seen.nd rfl (Or.inl rfl))) (fun _ _ _ _ _ => pts_nil) (fun _ _ _ _ _ => (pe_op op_mod (pv 7) (pv 1)))) pa_nil)))))))))), ?_⟩
    refine g_start (σ := [some _, some _, some _, none, none, none, none, none]) rfl ?_
    try dsimp only [cxOf]
    have hw1 := hw.1
    have hw2 := hw.2
    have hn0 : 0 < n := by omega
    walk_at "go"
    refine ⟨a, sc, rfl, hD, fun t0 H1 g1 => ?_⟩
    walk_at "go"
    refine ⟨a, sc, n, rfl, g1.dr, ⟨by omega, by omega⟩, fun r2 H2 h20 h21 g2 => ?_⟩
    walk_at "go"
    refine ⟨a, sc, _, rfl, g2.dr, ⟨by omega, by omega⟩, fun r3 H3 h30 h31 g3 => ?_⟩
    walk_at "go"
    refine ⟨a, sc, 3, rfl, g3.dr, by decide, fun r4 H4 h40 h41 g4 => ?_⟩
    walk_at "go"
    intro p5 hp5
    walk_at "go"
    refine g_pickI (zs := [r2, r3, r4]) hp5 g4.dr (by decide) rfl (fun wd H5 hwd g5 => ?_)
    have hwd : 0 ≤ wd ∧ wd < 1000000000000 := by
      simp only [List.mem_cons, List.not_mem_nil, or_false] at hwd
      rcases hwd with e | e | e <;> subst e <;> constructor <;> omega
    have G5 := (((g1.trans g2).trans g3).trans g4).trans g5
    clear g1 g2 g3 g4 g5 hp5
    walk_at "go"
    refine ⟨a, sc, _, rfl, G5.dr, ⟨by omega, by omega⟩, fun c H6 h60 h61 g6 => ?_⟩
    have G6 := G5.trans g6
    walk_at "goS"
    refine ⟨by omega, by omega, fun D nD => ?_⟩
    have nD0 : H D = none := by
      cases z : H D with
      | none => rfl
      | some o =>
        by_cases e : D = a
        · obtain ⟨xs, hx⟩ : ∃ xs, H6 a = some (.lst xs) := by
            obtain ⟨ns, i, m, l, h1, _⟩ := G6.dr.ex
            exact ⟨_, h1⟩
          rw [e, hx] at nD
          cases nD
        · rw [G6.kp _ _ z e] at nD
          cases nD
    refine lc_R 0 c.toNat (fun i acc H => Go K a sc H6 H ∧ ∃ zs : List Int, acc = zs.map V.int ∧ zs.length = i) (fun i acc H o h => ⟨h.1.mut G6.dr nD, h.2⟩) ⟨Go.refl G6.dr, [], rfl, rfl⟩ ?_ ?_
    · rintro i acc H7 hi ⟨g7, zs, rfl, hzl⟩ hDl hle
      walk_at "wp"
      walk_at "go"
      refine ⟨rfl, ?_⟩
      walk_at "go"
      refine ⟨a, sc, _, rfl, g7.dr, ⟨by omega, by omega⟩, fun r8 H8 h80 h81 g8 => ?_⟩
      walk_at "go"
      have nDa : D ≠ a := G6.dr.ne nD
      refine lc_leaf (J := fun i acc H => Go K a sc H6 H ∧ ∃ zs : List Int, acc = zs.map V.int ∧ zs.length = i) (fun i acc H o h => ⟨h.1.mut G6.dr nD, h.2⟩) (g8.at hDl nDa) hle (by omega) ⟨g7.trans g8, zs ++ [t0 + r8], by rw [List.map_append]; rfl, by rw [List.length_append, hzl]; rfl⟩
    · rintro acc H7 ⟨g7, zs, rfl, hzl⟩ u7
      have nDa : D ≠ a := G6.dr.ne nD
      have G7 := G6.trans g7
      have hzm : (zs.length : Int) ≤ m := by omega
      walk_at "goS"
      refine g_cutS (fun σ' H8 => σ' = [some (.ref a), some (.int n), some (.int m), some (.int t0), some (.int (1 + wd)), some (.ref D), none, none] ∧ ∃ ts : List Int, H8 D = some (.lst (ts.map V.int)) ∧ (ts.length : Int) ≤ m + 1 ∧ Go K a sc H H8) (fun N hN => ?_) ?_
      · walk_at "go"
        intro p8 hp8
        have e8 := Same.new hp8 (o := .lst [])
        refine g_neInts (ms := []) (SqL.of (e8 _ _ u7)) (SqL.of upd_same) ?_
        walk_at "go"
        refine ite_ndec (fun h1 => ?_) (fun h1 => ?_)
        · walk_at "go"
          refine ⟨a, sc, 2, rfl, G7.dr.same e8, by decide, fun r9 H9 h90 h91 g9 => ?_⟩
          have u9 := g9.at (e8 _ _ u7) nDa
          have G9 := (G7.then e8).trans g9
          walk_at "go"
          refine ite_dec (fun h2 => ?_) (fun h2 => ?_)
          · walk_at "go"
            refine g_tyL (SqL.of u9) ?_
            walk_at "go"
            obtain ⟨z, zr, rfl⟩ : ∃ z zr, zs = z :: zr := by
              cases zs with
              | nil => exact absurd rfl h1
              | cons z zr => exact ⟨z, zr, rfl⟩
            refine g_ixL (SqL.of u9) (v := .int z) (atI_nat (j := 0) rfl) ?_
            walk_at "go"
            refine g_app u9 (by rw [List.length_map]; omega) ?_
            exact hN _ _ ⟨rfl, (z :: zr) ++ [z], by rw [upd_same, List.map_append]; rfl, by simp at hzm ⊢; omega, G9.mut hD nD0⟩
          · walk_at "go"
            exact hN _ _ ⟨rfl, zs, u9, by omega, G9⟩
        · walk_at "go"
          exact hN _ _ ⟨rfl, zs, e8 _ _ u7, by omega, G7.then e8⟩
      · rintro σ' H8 ⟨rfl, ts, u8, htl, G8⟩
        walk_at "goS"
        refine ⟨⟨_, SqL.of u8⟩, fun D2 nD2 => ?_⟩
        refine lc_L (fun i acc H => Same H8 H ∧ acc = (ts.take i).map (fun t => V.int (t % n))) (fun i acc H o h => ⟨Same.mut h.1 nD2, h.2⟩) ⟨Same.refl _, rfl⟩ (fun i acc H h => h.1.seq (SqL.of u8)) ?_ ?_
        · rintro i v acc H9 hx ⟨e9, rfl⟩ hDl hle
          have hil := (List.getElem?_eq_some_iff.mp hx).1
          rw [List.length_map] at hil
          obtain ⟨t, rfl, ht⟩ := int_at hx
          walk_at "wp"
          walk_at "go"
          refine ⟨rfl, ?_⟩
          walk_at "go"
          refine lc_leaf (J := fun i acc H => Same H8 H ∧ acc = (ts.take i).map (fun t => V.int (t % n))) (fun i acc H o h => ⟨Same.mut h.1 nD2, h.2⟩) hDl hle (by omega) ⟨e9, ?_⟩
          rw [take_more ht, List.map_append]
          rfl
        · rintro acc H9 ⟨e9, rfl⟩ u9
          rw [List.length_map, List.take_length] at u9
          walk_at "go"
          intro p10 hp10
          have e10 := Same.new hp10 (o := .tup [V.ref D, V.ref D2])
          have nD20 : H D2 = none := by
            cases z : H D2 with
            | none => rfl
            | some o =>
              by_cases e : D2 = a
              · obtain ⟨xs, hx⟩ : ∃ xs, H8 a = some (.lst xs) := by
                  obtain ⟨ns, i, m, l, h1, _⟩ := G8.dr.ex
                  exact ⟨_, h1⟩
                rw [e, hx] at nD2
                cases nD2
              · rw [G8.kp _ _ z e] at nD2
                cases nD2
          refine k p10 D D2 ts _ htl nD0 nD20 (ne_of_none u8 nD2) upd_same (e10 _ _ (e9 _ _ u8)) (e10 _ _ (by rw [u9, List.map_map]; rfl)) ((G8.then e9).then e10)
end
end My
namespace My
open PySem PySem.Spec PyProof.Rows L2
/-! ### times within a width: what the wheel shows of them -/
/-- of width wide -/
structure Wd (ts : List Int) (wide : Int) : Prop where
  nn : 0 ≤ wide
  two : ∀ s ∈ ts, ∀ t ∈ ts, t - s ≤ wide
  lo : ts ≠ [] → ∃ l ∈ ts, ∀ t ∈ ts, l ≤ t
theorem far_mod {n s t : Int} : far n (s % n) (t % n) = (t - s) % n := by
  unfold far
  exact (Int.sub_emod t s n).symm
theorem far_up {n s t : Int} (h0 : 0 ≤ t - s) (h1 : t - s < n) : far n (s % n) (t % n) = t - s := by
  rw [far_mod]
  exact Int.emod_eq_of_lt h0 h1
theorem far_dn {n s t : Int} (h0 : t - s < 0) (h1 : s - t < n) : far n (s % n) (t % n) = n + (t - s) := by
  rw [far_mod, ← Int.add_emod_left]
  exact Int.emod_eq_of_lt (by omega) (by omega)
theorem wd_bg {n sp wide l : Int} {ts : List Int} (w : Wd ts wide) (hw : wide < n) (hs : wide ≤ sp) (hl : l ∈ ts) (hle : ∀ t ∈ ts, l ≤ t) : Bg n sp (ts.map (· % n)) (l % n) := by
  refine ⟨List.mem_map.mpr ⟨l, hl, rfl⟩, fun x hx => ?_⟩
  obtain ⟨t, ht, rfl⟩ := List.mem_map.mp hx
  have a := hle t ht
  have b := w.two l hl t ht
  show far n (l % n) (t % n) ≤ sp
  rw [far_up (by omega) (by omega)]
  omega
theorem two_bg {n sp b b' : Int} {ns : List Int} (hn : 0 < n) (hr : ∀ x ∈ ns, 0 ≤ x ∧ x < n) (h : Bg n sp ns b) (h' : Bg n sp ns b') (ne : b ≠ b') : n ≤ 2 * sp := by
  have a1 := h.2 b' h'.1
  have a2 := h'.2 b h.1
  have r1 := hr b h.1
  have r2 := hr b' h'.1
  have e1 : b % n = b := Int.emod_eq_of_lt r1.1 r1.2
  have e2 : b' % n = b' := Int.emod_eq_of_lt r2.1 r2.2
  rw [← e1, ← e2] at a1 a2
  by_cases z : b < b'
  · rw [far_up (by omega) (by omega)] at a1
    rw [far_dn (by omega) (by omega)] at a2
    omega
  · rw [far_dn (by omega) (by omega)] at a1
    rw [far_up (by omega) (by omega)] at a2
    omega
theorem gd_mem {ts : List Int} {i : Nat} (h : i < ts.length) : ts.getD i 0 ∈ ts := by
  rw [List.getD_eq_getElem?_getD, List.getElem?_eq_getElem h]
  exact List.getElem_mem h
theorem gd_map {ts : List Int} {i : Nat} {n : Int} (h : i < ts.length) : (ts.map (· % n)).getD i 0 = ts.getD i 0 % n := by
  rw [List.getD_eq_getElem?_getD, List.getD_eq_getElem?_getD, List.getElem?_map, List.getElem?_eq_getElem h]
  rfl
theorem wd_ordered {n wide l : Int} {ts : List Int} {js : List Nat} (w : Wd ts wide) (hw : wide < n) (hl : l ∈ ts) (hle : ∀ t ∈ ts, l ≤ t) (hp : js.Perm (List.range ts.length)) (hs : js.Pairwise (LtK ts)) : Ordered n (l % n) (ts.map (· % n)) js := by
  refine ⟨by rw [List.length_map]; exact hp, List.Pairwise.imp_of_mem (fun {i j} hi hj h => ?_) hs⟩
  have hi := List.mem_range.mp (hp.mem_iff.mp hi)
  have hj := List.mem_range.mp (hp.mem_iff.mp hj)
  unfold LtP
  rw [gd_map hi, gd_map hj]
  have mi := gd_mem hi
  have mj := gd_mem hj
  unfold LtK at h
  have a1 := hle _ mi
  have a2 := hle _ mj
  have b1 := w.two l hl _ mi
  have b2 := w.two l hl _ mj
  rw [far_up (by omega) (by omega), far_up (by omega) (by omega)]
  omega
theorem ltK_same {ts : List Int} {m : Nat} {l k : List Nat} (h1 : l.Perm (List.range m)) (h2 : k.Perm (List.range m)) (s1 : l.Pairwise (LtK ts)) (s2 : k.Pairwise (LtK ts)) : l = k :=
  List.Perm.eq_of_pairwise (le := LtK ts) (fun a b _ _ h h' => by
    unfold LtK at h h'
    omega) s1 s2 (h1.trans h2.symm)
theorem wd_ah {n wide s t : Int} {ts : List Int} (w : Wd ts wide) (hw : 2 * wide < n) (hs : s ∈ ts) (ht : t ∈ ts) : Ah n (s % n) (t % n) ↔ s < t := by
  have a := w.two s hs t ht
  have b := w.two t ht s hs
  have c := w.nn
  unfold Ah
  by_cases z : s < t
  · rw [far_up (by omega) (by omega)]
    omega
  · by_cases e : s = t
    · rw [far_up (by omega) (by omega)]
      omega
    · rw [far_dn (by omega) (by omega)]
      omega
theorem wd_noR {n wide : Int} {ts : List Int} (w : Wd ts wide) (hw : 2 * wide < n) : NoR n (ts.map (· % n)) := by
  intro m hm h
  rw [List.length_map] at hm
  unfold rgAt at h
  rw [List.length_map] at h
  have L : 0 < ts.length := by
    rcases Nat.eq_zero_or_pos ts.length with z | z
    · rw [z] at hm
      omega
    · exact z
  have h1 : m / (ts.length * ts.length) < ts.length := Nat.div_lt_of_lt_mul (by rw [Nat.mul_comm] at hm; rw [Nat.mul_comm]; exact Nat.mul_comm _ _ ▸ hm)
  have h2 : m / ts.length % ts.length < ts.length := Nat.mod_lt _ L
  have h3 : m % ts.length < ts.length := Nat.mod_lt _ L
  rw [gd_map h1, gd_map h2, gd_map h3] at h
  obtain ⟨a, b, c⟩ := h
  rw [wd_ah w hw (gd_mem h1) (gd_mem h2)] at a
  rw [wd_ah w hw (gd_mem h2) (gd_mem h3)] at b
  rw [wd_ah w hw (gd_mem h3) (gd_mem h1)] at c
  omega
theorem wd_ord {n wide s t : Int} {ts : List Int} (w : Wd ts wide) (hw : 2 * wide < n) (hs : s ∈ ts) (ht : t ∈ ts) : ordS n (s % n) (t % n) = (if s = t then ("same" : Str) else if s < t then ("ahead" : Str) else ("behind" : Str)) := by
  have a := w.two s hs t ht
  have b := w.two t ht s hs
  have c := w.nn
  unfold ordS
  by_cases z : s < t
  · rw [far_up (by omega) (by omega), if_neg (by omega), if_neg (by omega), if_pos (by omega), if_neg (by omega), if_pos z]
  · by_cases e : s = t
    · rw [far_up (by omega) (by omega), if_pos (by omega), if_pos e]
    · rw [far_dn (by omega) (by omega), if_neg (by omega), if_neg (by omega), if_neg (by omega), if_neg e, if_neg z]
theorem ordered_same {n b : Int} {ns : List Int} {l k : List Nat} (h1 : Ordered n b ns l) (h2 : Ordered n b ns k) : l = k :=
  List.Perm.eq_of_pairwise (le := LtP n b ns) (fun x y _ _ h h' => by
    unfold LtP at h h'
    omega) h1.2 h2.2 (h1.1.trans h2.1.symm)
/-! ### the user's steps: sorted with a key -/
theorem g_sk {T : List (Addr × Str)} {K : PySem.W.Frag} {ta : TE} {tj : Nat} {σ : L2.St} {H : Hp} {Q : VK} (q : ta σ H fun x H1 => ∃ (ll L : Addr) (m : Nat) (ts : List Int), x = .ref ll ∧ SqL K H1 ll ((List.range m).map fun j : Nat => V.int (j : Int)) ∧ σ[tj]? = some (some (.ref L)) ∧ SqL K H1 L (ts.map V.int) ∧
  ts.length = m ∧ m ≤ 1000 ∧ LamX.Tabs T H1 ∧ ∀ (H2 : Hp) (js : List Nat) (p : Addr), LamX.ExtN H1 H2 → LamX.Tabs T H2 → js.Perm (List.range m) → js.Pairwise (LtK ts) → H2 p = none → Q (.ref p) (upd H2 p (.lst (js.map fun j : Nat => V.int (j : Int))))) : tSK T K ta tj σ H Q := q
theorem g_lstRg {te : TE} {σ : L2.St} {H : Hp} {Q : VK} (q : te σ H fun x H1 => ∃ n : Int, x = .int n ∧ RgOk 0 n ∧ ∀ q, H1 q = none → Q (.ref q) (upd H1 q (.lst (rgV 0 n)))) : tLstRg (tRg1 te) σ H Q := q
theorem rgV_nat {m : Nat} : rgV 0 (m : Int) = (List.range m).map fun j : Nat => V.int (j : Int) := by
  unfold rgV
  rw [show ((m : Int) - 0).toNat = m by omega]
  refine List.map_congr_left fun j _ => ?_
  rw [Int.zero_add]
theorem eqv_ls {xs : List PyData} {z : Str} : PyData.eqv (.list xs) (.str z) = false := by rw [PyData.eqv]; all_goals (intros; simp_all)
theorem eqv_ns {z : Str} : PyData.eqv .none (.str z) = false := by rw [PyData.eqv]; all_goals (intros; simp_all)
theorem atI_nat2 {xs : List V} {i : Int} {j : Nat} {v : V} (e : i = (j : Int)) (h : xs[j]? = some v) : atI xs i = some v := by
  rw [e]
  exact atI_nat h
end My
namespace My
open PySem PySem.Spec PyProof.Rows L2
open LamX (Tabs ExtN)
/-! ### the law's own order within a span -/
def sp_ldue (K : PySem.W.Frag) (T : List (Addr × Str)) : Sp := fun vs H Q _ => ∃ (n sp : Int) (a : Addr) (ns : List Int), vs = [.int n, .int sp, .ref a] ∧ H a = some (.lst (ns.map V.int)) ∧ 0 < n ∧ ns.length ≤ 100 ∧ Tabs T H ∧
  (ns = [] → ∀ p H', ExtN H H' → Tabs T H' → H' p = some (.lst []) → Q (.ref p) H') ∧
  (∀ b b', Bg n sp ns b → Bg n sp ns b' → b ≠ b' → ∀ H', ExtN H H' → Tabs T H' → Q .non H') ∧
  (∀ b js, Bg n sp ns b → (∀ b', Bg n sp ns b' → b' = b) → Ordered n b ns js → ∀ p H', ExtN H H' → Tabs T H' → H' p = some (.lst (natsV js)) → Q (.ref p) H') ∧
  (ns ≠ [] → (∀ b, ¬ Bg n sp ns b) → ∀ H', ExtN H H' → Tabs T H' → Q (.str "NoSpan") H')
theorem ExtN.mut {H H' : Hp} {d : Addr} {o : HO} (e : ExtN H H') (h : H d = none) : ExtN H (upd H' d o) := fun b u hb n => by
  rw [upd_ne (ne_of_none hb h)]
  exact e b u hb n
theorem tabs_dk {T : List (Addr × Str)} {H : Hp} {d : Addr} {kvs : List (Key × V)} {o : HO} (t : Tabs T H) (h : H d = some (.dK kvs)) : Tabs T (upd H d o) :=
  tabs_kp t (fun ps z => by rw [h] at z; cases z) (fun c q z => by rw [h] at z; unfold LamX.CodeO at z; cases z) Kp.upd
theorem tabs_ls {T : List (Addr × Str)} {H : Hp} {d : Addr} {xs : List V} {o : HO} (t : Tabs T H) (h : H d = some (.lst xs)) : Tabs T (upd H d o) :=
  tabs_kp t (fun ps z => by rw [h] at z; cases z) (fun c q z => by rw [h] at z; unfold LamX.CodeO at z; cases z) Kp.upd
/-! the keys of a dict -/
theorem putK_keys (kvs : List (Key × V)) (k : Key) (v : V) : (k ∈ kvs.map (·.1) ∧ (putK kvs k v).map (·.1) = kvs.map (·.1)) ∨ (k ∉ kvs.map (·.1) ∧ (putK kvs k v).map (·.1) = kvs.map (·.1) ++ [k]) := by
  have e : ((kvs.any fun kv => decide (kv.1 = k)) = true) ↔ k ∈ kvs.map (·.1) := by
    rw [List.any_eq_true, List.mem_map]
    simp only [decide_eq_true_eq]
  unfold putK
  by_cases h : (kvs.any fun kv => decide (kv.1 = k)) = true
  · rw [if_pos h, List.map_map]
    refine .inl ⟨e.mp h, List.map_congr_left fun x _ => ?_⟩
    show (if x.1 = k then (x.1, v) else x).1 = x.1
    split <;> rfl
  · rw [if_neg h, List.map_append]
    exact .inr ⟨fun z => h (e.mpr z), rfl⟩
theorem putK_mem {kvs : List (Key × V)} {k : Key} {v : V} {e : Key × V} (h : e ∈ putK kvs k v) : e = (k, v) ∨ e ∈ kvs := by
  unfold putK at h
  split at h
  · obtain ⟨x, hx, rfl⟩ := List.mem_map.mp h
    by_cases z : x.1 = k
    · rw [if_pos z, z]
      exact .inl rfl
    · rw [if_neg z]
      exact .inr hx
  · rcases List.mem_append.mp h with h | h
    · exact .inr h
    · exact .inl (List.mem_singleton.mp h)
/-- what the dict holds when i are looked at -/
structure DueI (n sp : Int) (ns : List Int) (i : Nat) (kvs : List (Key × V)) (H : Hp) : Prop where
  mem : ∀ e ∈ kvs, ∃ b p js, e = (.inl b, .ref p) ∧ Bg n sp ns b ∧ Ordered n b ns js ∧ H p = some (.lst (natsV js))
  nd : (kvs.map (·.1)).Nodup
  all : ∀ j x, j < i → ns[j]? = some x → Bg n sp ns x → (.inl x : Key) ∈ kvs.map (·.1)
  len : kvs.length ≤ i
theorem DueI.start {n sp : Int} {ns : List Int} {H : Hp} : DueI n sp ns 0 [] H := ⟨fun _ h => (nomatch h), List.nodup_nil, fun _ _ h => absurd h (Nat.not_lt_zero _), Nat.le_refl _⟩
theorem DueI.keep {n sp : Int} {ns : List Int} {i : Nat} {kvs : List (Key × V)} {H H' : Hp} (x : DueI n sp ns i kvs H) (e : ∀ p xs, H p = some (.lst xs) → H' p = some (.lst xs)) : DueI n sp ns i kvs H' :=
  ⟨fun z hz => by
    obtain ⟨b, p, js, h1, h2, h3, h4⟩ := x.mem z hz
    exact ⟨b, p, js, h1, h2, h3, e _ _ h4⟩, x.nd, x.all, x.len⟩
theorem DueI.no {n sp : Int} {ns : List Int} {i : Nat} {kvs : List (Key × V)} {H : Hp} {x : Int} (d : DueI n sp ns i kvs H) (hx : ns[i]? = some x) (h : ¬ Bg n sp ns x) : DueI n sp ns (i + 1) kvs H :=
  ⟨d.mem, d.nd, fun j y hj hy hb => by
    by_cases z : j = i
    · subst z
      rw [hx] at hy
      cases hy
      exact absurd hb h
    · exact d.all j y (by omega) hy hb, Nat.le_succ_of_le d.len⟩
theorem DueI.put {n sp : Int} {ns : List Int} {i : Nat} {kvs : List (Key × V)} {H H' : Hp} {x : Int} {p : Addr} {js : List Nat} (d : DueI n sp ns i kvs H) (hx : ns[i]? = some x) (hb : Bg n sp ns x) (ho : Ordered n x ns js) (hp : H' p = some (.lst (natsV js)))
    (e : ∀ p xs, H p = some (.lst xs) → H' p = some (.lst xs)) : DueI n sp ns (i + 1) (putK kvs (.inl x) (.ref p)) H' := by
  refine ⟨fun z hz => ?_, ?_, fun j y hj hy hb2 => ?_, Nat.le_trans (length_putK _ _ _) (Nat.succ_le_succ d.len)⟩
  · rcases putK_mem hz with rfl | hz
    · exact ⟨x, p, js, rfl, hb, ho, hp⟩
    · exact (d.keep e).mem z hz
  · rcases putK_keys kvs (.inl x) (.ref p) with ⟨_, e⟩ | ⟨h, e⟩
    · rw [e]
      exact d.nd
    · rw [e]
      refine List.nodup_append.mpr ⟨d.nd, List.pairwise_singleton _ _, fun a ha b hb z => h ?_⟩
      rw [← List.mem_singleton.mp hb, ← z]
      exact ha
  · have q : (.inl y : Key) = .inl x ∨ (.inl y : Key) ∈ kvs.map (·.1) := by
      by_cases z : j = i
      · subst z
        rw [hx] at hy
        cases hy
        exact .inl rfl
      · exact .inr (d.all j y (by omega) hy hb2)
    rcases putK_keys kvs (.inl x) (.ref p) with ⟨h, e⟩ | ⟨h, e⟩
    · rw [e]
      rcases q with q | q
      · rw [q]
        exact h
      · exact q
    · rw [e]
      rcases q with q | q
      · rw [q]
        simp
      · exact List.mem_append_left _ q
theorem DueI.none {n sp : Int} {ns : List Int} {H : Hp} (d : DueI n sp ns ns.length [] H) (b : Int) : ¬ Bg n sp ns b := fun h => by
  obtain ⟨j, hj⟩ := List.getElem?_of_mem h.1
  exact nomatch d.all j b (List.getElem?_eq_some_iff.mp hj).1 hj h
theorem DueI.one {n sp : Int} {ns : List Int} {H : Hp} {e : Key × V} (d : DueI n sp ns ns.length [e] H) : ∃ b p js, e = (.inl b, .ref p) ∧ Bg n sp ns b ∧ (∀ b', Bg n sp ns b' → b' = b) ∧ Ordered n b ns js ∧ H p = some (.lst (natsV js)) := by
  obtain ⟨b, p, js, rfl, h2, h3, h4⟩ := d.mem e (List.mem_singleton.mpr rfl)
  refine ⟨b, p, js, rfl, h2, fun b' h => ?_, h3, h4⟩
  obtain ⟨j, hj⟩ := List.getElem?_of_mem h.1
  have := d.all j b' (List.getElem?_eq_some_iff.mp hj).1 hj h
  simpa using this
theorem DueI.two {n sp : Int} {ns : List Int} {H : Hp} {e e' : Key × V} {r : List (Key × V)} (d : DueI n sp ns ns.length (e :: e' :: r) H) : ∃ b b', Bg n sp ns b ∧ Bg n sp ns b' ∧ b ≠ b' := by
  obtain ⟨b, p, js, rfl, h2, _⟩ := d.mem e (by simp)
  obtain ⟨b', p', js', rfl, h2', _⟩ := d.mem e' (by simp)
  refine ⟨b, b', h2, h2', fun z => ?_⟩
  have := d.nd
  subst z
  simp at this
theorem ordered_K {n b : Int} {ns : List Int} {js : List Nat} (hp : js.Perm (List.range ns.length)) (hs : js.Pairwise (LtK (ns.map (far n b)))) : Ordered n b ns js := by
  refine ⟨hp, List.Pairwise.imp_of_mem (fun {i j} hi hj h => ?_) hs⟩
  have hi := List.mem_range.mp (hp.mem_iff.mp hi)
  have hj := List.mem_range.mp (hp.mem_iff.mp hj)
  have e : ∀ k, k < ns.length → (ns.map (far n b)).getD k 0 = far n b (ns.getD k 0) := fun k hk => by
    rw [List.getD_eq_getElem?_getD, List.getD_eq_getElem?_getD, List.getElem?_map, List.getElem?_eq_getElem hk]
    rfl
  unfold LtK at h
  rw [e i hi, e j hj] at h
  exact h
/-! the user's steps -/
theorem g_dput {td ty tv : TE} {D : Ends} {σ : L2.St} {H : Hp} (q : tv σ H fun v H1 => td σ H1 fun x H2 => ty σ H2 fun y H3 => ∃ a H4, x = .ref a ∧ DPut H3 a y v H4 ∧ D.nx σ H4) : sDPut td ty tv D σ H := q
theorem g_dnew {σ : L2.St} {H : Hp} {Q : VK} (q : ∀ p, H p = none → Q (.ref p) (upd H p (.dK []))) : tDNewK σ H Q := q
end My
namespace My
open PySem PySem.Spec PyProof.Rows L2
section
variable {P : Program} {w : World} {K : PySem.W.Frag} {mg : Str → Option Value} {base : Heap} {ec : Ec}
def qL__law_due : Str := (envOfC "_law_due" (defScope s__law_due) 0 0 .none).qual ++ "<lambda>"
def qL : Str := (envOfC "law" (defScope s_law) 0 0 .none).qual ++ "<lambda>"
theorem sc__law_due : FnScope ["_law_wheel_here", "_law_span", "_law_seen_here", "_law_some", "_law_begin", "_law_far_here", "_law_other"] ["_law_wheel_here", "_law_span", "_law_seen_here"] (defScope s__law_due) := ⟨rfl, rfl, rfl, by decide +kernel, rfl, by decide +kernel, by decide +kernel⟩
theorem ok__law_due {cL__law_due PL__law_due PL : Addr} (hPP : PL__law_due ≠ PL) (T : Txt K mg ec) (D : FnC K mg "_law_due" s__law_due cL__law_due) (TB : LamX.TabB base mg cL__law_due PL__law_due) (D__law_kind : FnL K mg "_law_kind" s__law_kind)  : Knows P w K mg base 1 "_law_due" ["_law_wheel_here", "_law_span", "_law_seen_here"] (sp_ldue K [(PL__law_due, qL__law_due), (PL, qL)]) := by
  refine Knows.mkC D sc__law_due (fun _ _ _ _ _ _ us hl => match us, hl with | [_, _, _], _ => rfl) (fun vs H Q E h => ?_) (fun f A outer s H vs Q E hr h => ?_)
  · obtain ⟨n, sp, a, ns, rfl, _⟩ := h; rfl
  · obtain ⟨n, sp, a, ns, rfl, ha, hn0, hlen, hT, k1, k2, k3, k4⟩ := h
    refine ⟨_, (pss_cons (ps_set (i := 3) sc__law_due.nd rfl (Or.inl rfl) pe_dnewK)
    (pss_cons (ps_for passO rfl (pi_list (pv 2)) (pg_name (i := 4) sc__law_due.nd rfl (Or.inr rfl)) (pss_cons (ps_set (i := 5) sc__law_due.nd rfl (Or.inr rfl) (pe_lc (own := [("_law_other", 6)]) (g := gName 6) (tt := tYes) rfl sc__law_due.nd (pi_list (pv 2)) (blkOk_by (own := [("_law_other", 6)]) (N := ["_law_wheel_here", "_law_span", "_law_seen_here", "_law_some", "_law_begin", "_law_far_here", "_law_other"]) (sc := defScope s__law_due) (by decide +kernel)) (fun _ _ _ _ _ => (pg_name (i := 6) sc__law_due.nd rfl (Or.inl rfl))) (fun _ _ _ _ _ => pts_nil) (fun _ _ _ _ _ => (pe_op op_mod (pe_op op_sub (pv 6) (pv 4)) (pv 0)))))
    (pss_one (ps_if (pt_cmpR op_le (pe_callB (cr_max rfl) (by rfl) T.max (by decide +kernel) (pa_cons (pv 5) pa_nil)) (pv 1) (nomark _)) (pss_one (ps_dput (Nat.lt_of_le_of_lt (Nat.add_le_add_left (by decide : 1 ≤ 64) _) hr.units) (pv 3) (pv 4) (pe_sortedKeyS (T := [(PL__law_due, qL__law_due), (PL, qL)]) (q := qL__law_due) (kn := "_law_k") (tn := "_law_far_here") (tj := 5) (pe_listRg rfl (by rfl) T.list (prg_1 (by rfl) T.range (pe_callB call_lenN (by rfl) T.len PySem.boot_len (pa_cons (pv 2) pa_nil)))) TB rfl rfl (.head _) (tab_u0 hPP) (by exact lamP_by (sc := defScope s__law_due) (by decide +kernel)) rfl rfl (fun _ _ _ _ _ _ => rfl) rfl hr.depth hr.units (by decide) (by rfl) T.sorted) rfl)) pss_nil))))
    (pss_cons (ps_if (PW.pt (pw_or (pt_cmpR (op_eqD hr.units) (pv 2) (pe_lst pa_nil) (nomark _)) (pw_or1 (pt_cmpR op_gt (pe_callB call_lenD (by rfl) T.len PySem.boot_len (pa_cons (pv 3) pa_nil)) pe_int (nomark _))))) (pss_one (ps_ret (pe_ifExp (pt_cmpR (op_eqD hr.units) (pv 2) (pe_lst pa_nil) (nomark _)) (pe_lst pa_nil) pe_non))) pss_nil)
    (pss_one (ps_ret (pe_ifExp (pt_cmpR (op_neE (Nat.lt_of_le_of_lt (Nat.le_add_right _ 64) hr.units)) (pv 3) pe_dnewK (nomark _)) (pe_ix ix_list (pe_listVals rfl (by rfl) T.list (pv 3)) pe_int (fun _ _ => rfl)) pe_str)))))), ?_⟩
    refine g_start (σ := [some _, some _, some _, none, none, none, none]) rfl ?_
    try dsimp only [cxOf]
    walk_at "go"
    refine g_dnew (fun d hd => ?_)
    walk_at "go"
    have nda : a ≠ d := ne_of_none ha hd
    refine ⟨⟨_, SqL.of (by rw [upd_ne nda]; exact ha)⟩, for_L (K := K) (a := a) (xs := ns.map V.int) (fun i σ H' => LamX.ExtN H H' ∧ LamX.Tabs [(PL__law_due, qL__law_due), (PL, qL)] H' ∧ (∃ kvs, H' d = some (.dK kvs) ∧ DueI n sp ns i kvs H') ∧ ∃ v4 v5 v6, σ = [some (.int n), some (.int sp), some (.ref a), some (.ref d), v4, v5, v6])
      ⟨ExtN.mut (LamX.ExtN.refl H) hd, tabs_same hT (Same.new hd), ⟨[], upd_same, .start⟩, _, _, _, rfl⟩ (fun i σ H' _ h => SqL.of (h.1 _ _ ha (fun _ z => by cases z))) ?_ ?_⟩
    · rintro i y σ H' hi ⟨e1, hT1, ⟨kvs, hk, hI⟩, v4, v5, v6, rfl⟩
      obtain ⟨b, rfl, hb⟩ := int_at hi
      have a1 := extN_lst e1 ha
      walk_at "goS"
      refine ⟨⟨_, SqL.of a1⟩, fun D nD => ?_⟩
      refine lc_L (fun j acc H2 => Same H' H2 ∧ acc = (ns.take j).map (fun x => V.int (far n b x))) (fun i acc H2 o h => ⟨Same.mut h.1 nD, h.2⟩) ⟨Same.refl _, rfl⟩ (fun i acc H2 h => SqL.of (h.1 _ _ a1)) ?_ ?_
      · rintro j v acc2 H5 hx2 ⟨e5, rfl⟩ hDl2 hle2
        have hjl : j < 100000 := by
          have := (List.getElem?_eq_some_iff.mp hx2).1
          rw [List.length_map] at this
          omega
        obtain ⟨x, rfl, hx3⟩ := int_at hx2
        walk_at "wp"
        walk_at "go"
        refine ⟨rfl, ?_⟩
        walk_at "go"
        refine lc_leaf (J := fun j acc H2 => Same H' H2 ∧ acc = (ns.take j).map (fun x => V.int (far n b x))) (fun i acc H2 o h => ⟨Same.mut h.1 nD, h.2⟩) hDl2 hle2 hjl ⟨e5, ?_⟩
        rw [take_more hx3, List.map_append]
        rfl
      · rintro acc2 H5 ⟨e5, rfl⟩ u5
        rw [List.length_map, List.take_length] at u5
        have hpos : 0 < ns.length := by
          have := (List.getElem?_eq_some_iff.mp hb).1
          omega
        have uD : H5 D = some (.lst ((ns.map (far n b)).map V.int)) := by rw [u5, List.map_map]; rfl
        have e15 : LamX.ExtN H H5 := e1.trans (extN_same e5)
        have hT5 := tabs_same hT1 e5
        have hk5 := e5 _ _ hk
        have hI5 := hI.keep (fun p xs h => e5 p _ h)
        have a5 := extN_lst e15 ha
        walk_at "goS"
        refine g_ifS ?_
        walk_at "goS"
        refine ⟨D, ns.map (far n b), rfl, SqL.of uD, by rw [List.length_map]; exact hpos, fun m hm hmax => ?_⟩
        walk_at "goS"
        have key : m ≤ sp ↔ ∀ x ∈ ns, far n b x ≤ sp := by
          obtain ⟨x0, hx0, rfl⟩ := List.mem_map.mp hm
          exact ⟨fun h x hx => Int.le_trans (hmax _ (List.mem_map.mpr ⟨x, hx, rfl⟩)) h, fun h => h x0 hx0⟩
        refine ite_dec (fun h2 => ?_) (fun h2 => ?_)
        · have hbg : Bg n sp ns b := ⟨List.mem_of_getElem? hb, key.mp h2⟩
          walk_at "go"
          refine g_dput ?_
          refine g_sk ?_
          refine g_lstRg ?_
          walk_at "go"
          refine g_lenL (SqL.of a5) ?_
          refine ⟨_, rfl, ?_, fun p10 hp10 => ?_⟩
          · rw [List.length_map]
            exact RgOk.of_le (by decide) (by omega) (by decide) (by omega)
          rw [List.length_map, rgV_nat]
          have e10 := Same.new hp10 (o := .lst ((List.range ns.length).map fun j : Nat => V.int (j : Int)))
          refine ⟨p10, D, ns.length, ns.map (far n b), rfl, SqL.of upd_same, rfl, SqL.of (e10 _ _ uD), by rw [List.length_map], by omega, tabs_same hT5 e10, fun H11 js p11 e11 hT11 hj1 hj2 hp11 => ?_⟩
          have e12 := Same.new hp11 (o := .lst (js.map fun j : Nat => V.int (j : Int)))
          have eA : LamX.ExtN H5 (upd H11 p11 (.lst (js.map fun j : Nat => V.int (j : Int)))) := ((extN_same e10).trans e11).trans (extN_same e12)
          have hT12 := tabs_same hT11 e12
          have u12 : upd H11 p11 (.lst (js.map fun j : Nat => V.int (j : Int))) p11 = some (.lst (natsV js)) := upd_same
          generalize upd H11 p11 (.lst (js.map fun j : Nat => V.int (j : Int))) = H12 at *
          have hk12 := eA _ _ hk5 (fun _ z => by cases z)
          have np : p11 ≠ d := ne_of u12 hk12 (by intro z; cases z)
          walk_at "go"
          refine ⟨d, _, rfl, DPut.k (k := Sum.inl b) hk12 (Nat.lt_of_le_of_lt hI.len (szl (by have := (List.getElem?_eq_some_iff.mp hb).1; omega))), ?_⟩
          refine ⟨ExtN.mut (e15.trans eA) hd, tabs_dk hT12 hk12, ⟨_, upd_same, hI5.put hb hbg (ordered_K hj1 hj2) (by rw [upd_ne np]; exact u12) (fun p xs h => ?_)⟩, _, _, _, rfl⟩
          have h' := eA _ _ h (fun _ z => by cases z)
          rw [upd_ne (ne_of h' hk12 (by intro z; cases z))]
          exact h'
        · walk_at "go"
          exact ⟨e15, hT5, ⟨kvs, hk5, hI5.no hb (fun z => h2 (key.mpr z.2))⟩, _, _, _, rfl⟩
    · rintro σ H' ⟨e1, hT1, ⟨kvs, hk, hI⟩, v4, v5, v6, rfl⟩
      rw [List.length_map] at hI
      have a1 := extN_lst e1 ha
      walk_at "goS"
      refine g_ifS ?_
      walk_at "goS"
      intro p1 hp1
      have s1 := Same.new hp1 (o := .lst [])
      refine g_eqInts (ms := []) (SqL.of (s1 _ _ a1)) (SqL.of upd_same) ?_
      have hk1 := s1 _ _ hk
      have hT2 := tabs_same hT1 s1
      have hI1 := hI.keep (fun p xs h => s1 p _ h)
      have e2 := e1.trans (extN_same s1)
      have a2 := s1 _ _ a1
      generalize upd H' p1 (.lst []) = H2 at *
      clear hp1 s1 a1 hk hT1 hI e1
      walk_at "goS"
      refine ite_dec (fun hnil => ?_) (fun hnil => ?_)
      · walk_at "go"
        intro p3 hp3
        have s3 := Same.new hp3 (o := .lst [])
        refine g_eqInts (ms := []) (SqL.of (s3 _ _ a2)) (SqL.of upd_same) ?_
        walk_at "go"
        refine ite_dec (fun _ => ?_) (fun z => absurd hnil z)
        walk_at "go"
        intro p4 hp4
        have s4 := Same.new hp4 (o := .lst [])
        exact k1 hnil p4 _ ((e2.trans (extN_same s3)).trans (extN_same s4)) (tabs_same (tabs_same hT2 s3) s4) upd_same
      · walk_at "go"
        refine ⟨d, kvs, rfl, hk1, ?_⟩
        walk_at "go"
        refine ite_dec (fun h3 => ?_) (fun h3 => ?_)
        · walk_at "go"
          intro p3 hp3
          have s3 := Same.new hp3 (o := .lst [])
          refine g_eqInts (ms := []) (SqL.of (s3 _ _ a2)) (SqL.of upd_same) ?_
          walk_at "go"
          refine ite_dec (fun z => absurd z hnil) (fun _ => ?_)
          walk_at "go"
          match kvs, h3, hI1 with
          | e :: e' :: r, _, hI1 =>
            obtain ⟨b, b', h1, h2, h4⟩ := hI1.two
            exact k2 b b' h1 h2 h4 _ (e2.trans (extN_same s3)) (tabs_same hT2 s3)
          | [e], h3, _ => exact absurd h3 (by simp)
          | [], h3, _ => exact absurd h3 (by simp)
        · walk_at "go"
          refine g_dnew (fun p3 hp3 => ?_)
          have s3 := Same.new hp3 (o := .dK [])
          refine ⟨d, p3, kvs, rfl, rfl, s3 _ _ hk1, upd_same, ?_⟩
          walk_at "go"
          match kvs, h3, hI1, hk1 with
          | [], _, hI1, hk1 =>
            walk_at "go"
            exact k4 hnil (fun b => hI1.none b) _ (e2.trans (extN_same s3)) (tabs_same hT2 s3)
          | [e], _, hI1, hk1 =>
            obtain ⟨b, p, js, rfl, h1, h2, h4, h5⟩ := hI1.one
            refine ite_dec (fun _ => ?_) (fun z => absurd (List.cons_ne_nil _ _) z)
            walk_at "go"
            refine g_listVals ?_
            walk_at "go"
            refine ⟨d, _, rfl, s3 _ _ hk1, fun q hq => ?_⟩
            have s4 := Same.new hq (o := .lst [V.ref p])
            walk_at "go"
            refine g_ixL (xs := [V.ref p]) (SqL.of upd_same) (v := .ref p) rfl ?_
            exact k3 b js h1 h2 h4 p _ ((e2.trans (extN_same s3)).trans (extN_same s4)) (tabs_same (tabs_same hT2 s3) s4) (s4 _ _ (s3 _ _ h5))
          | e :: e' :: r, h3, _, _ => exact absurd (show ((e :: e' :: r).length : Int) > 1 by simp; omega) h3
end
end My
namespace My
open PySem PySem.Spec PyProof.Rows L2
open LamX (Tabs ExtN)
theorem g_sl {r : V → Option Int → Option Int → Hp → VK → Prop} {te : TE} {tl th : TO} {σ : L2.St} {H : Hp} {Q : VK} (q : te σ H fun x H1 => tl σ H1 fun l H2 => th σ H2 fun u H3 => r x l u H3 Q) : tSl r te tl th σ H Q := q
theorem g_noP {σ : L2.St} {H : Hp} {Q : Option Int → Hp → Prop} (q : Q none H) : tNoPart σ H Q := q
theorem g_part {te : TE} {σ : L2.St} {H : Hp} {Q : Option Int → Hp → Prop} (q : te σ H fun x H1 => ∃ i, x = .int i ∧ Q (some i) H1) : tPart te σ H Q := q
theorem g_slL {K : PySem.W.Frag} {p : Addr} {xs : List V} {lo hi : Option Int} {H : Hp} {Q : VK} (h : SqL K H p xs) (q : ∀ l, H l = none → Q (.ref l) (upd H l (.lst (cutV xs lo hi)))) : rSlL K (.ref p) lo hi H Q := ⟨p, xs, rfl, h, q⟩
theorem cutV_ints (zs : List Int) (lo hi : Option Int) : ∃ ys : List Int, cutV (zs.map V.int) lo hi = ys.map V.int ∧ ys.length ≤ zs.length := by
  refine ⟨(zs.drop (HT.sIx (zs.map V.int).length 0 lo)).take (HT.sIx (zs.map V.int).length (zs.map V.int).length hi - HT.sIx (zs.map V.int).length 0 lo), ?_, ?_⟩
  · unfold cutV
    rw [List.map_take, List.map_drop]
  · rw [List.length_take, List.length_drop]
    omega
theorem g_repI {p : Addr} {z k : Int} {H : Hp} {Q : VK} (h : H p = some (.lst [.int z])) (h0 : 0 ≤ k) (hn : k ≤ 1000) (q : ∀ l, H l = none → Q (.ref l) (upd H l (.lst ((List.replicate k.toNat z).map V.int)))) : rRep (.ref p) (.int k) H Q := by
  refine ⟨p, k, [.int z], rfl, rfl, h, by omega, by omega, by rw [List.length_singleton, Nat.one_mul]; exact sz (by omega), fun l hl => ?_⟩
  have e : (List.replicate k.toNat [V.int z]).flatten = (List.replicate k.toNat z).map V.int := by
    generalize k.toNat = m
    induction m with
    | zero => rfl
    | succ m ih =>
      rw [List.replicate_succ, List.flatten_cons, ih, List.replicate_succ, List.map_cons]
      rfl
  rw [e]
  exact q l hl
/-- what arranged and the law's own order tell -/
def FoundR (n sp : Int) (ns : List Int) (v : V) (H : Hp) (a L h : Addr) : Prop :=
  (∃ f js, v = .ref f ∧ H f = some (.lst (natsV js)) ∧ f ≠ a ∧ f ≠ L ∧ f ≠ h ∧ (ns = [] ∧ js = [] ∨ ∃ b, Bg n sp ns b ∧ (∀ b', Bg n sp ns b' → b' = b) ∧ Ordered n b ns js)) ∨
  (v = .non ∧ ∃ b b', Bg n sp ns b ∧ Bg n sp ns b' ∧ b ≠ b') ∨ (v = .str "NoSpan" ∧ ns ≠ [] ∧ ∀ b, ¬ Bg n sp ns b)
theorem sd_nats {H : Hp} {f g : Addr} {js : List Nat} (h1 : H f = some (.lst (natsV js))) (h2 : H g = some (.lst (natsV js))) (hl : js.length ≤ 100000) : SD H 1 (.ref f) (.ref g) :=
  .lst h1 h2 rfl (by unfold natsV; rw [List.length_map]; exact hl) (SD.flat (fun z hz d => by
    obtain ⟨j, _, rfl⟩ := List.mem_map.mp hz
    exact .int _) rfl)
theorem bg_nil {n sp b : Int} (h : Bg n sp [] b) : False := nomatch h.1
end My
namespace My
open PySem PySem.Spec PyProof.Rows L2
section
variable {P : Program} {w : World} {K : PySem.W.Frag} {mg : Str → Option Value} {base : Heap} {ec : Ec}
theorem sc_law : FnScope ["_law_script", "_law_state", "_law_turn", "_law_wheel_here", "_law_times", "_law_seen_here", "_law_wide", "_law_span", "_law_handed", "_law_again", "_law_found", "_law_odd", "_law_at", "_law_bad"] ["_law_script"] (defScope s_law) := ⟨rfl, rfl, rfl, by decide +kernel, rfl, by decide +kernel, by decide +kernel⟩
theorem ok_law {f0 cL PL__law_due PL : Addr} {oc0 kV0 dc0 pm0 ct0 : Value} {od0 an0 : Option Addr} {sl0 : Array (Option Value)} (hPP : PL__law_due ≠ PL) (T : Txt K mg ec) (lk : K.lookup f0 = some ⟨oc0, od0, .func (PySem.W.fnOf "law" "law" (defArgs s_law) (defBody s_law) (defScope s_law) .none kV0 dc0 pm0 an0 (.ref cL) ct0), sl0⟩) (hcd : PySem.W.codeIn K (.ref cL) "law" = true) (TB : LamX.TabB base mg cL PL) (D__law_kind : FnL K mg "_law_kind" s__law_kind) (c__law_start : Knows P w K mg base 1 "_law_start" ["_law_script"] (sp_start K)) (c__law_wheel : Knows P w K mg base 2 "_law_wheel" ["_law_state"] (sp_wheel K)) (c__law_seen : Knows P w K mg base 3 "_law_seen" ["_law_state", "_law_wheel_here", "_law_most"] (sp_lseen K)) (c__law_far : Knows P w K mg base 2 "_law_far" ["_law_state", "_law_least", "_law_most"] (sp_far K)) (c__law_drawn : Knows P w K mg base 1 "_law_drawn" ["_law_state", "_law_many"] (sp_drawn K)) (c_arranged : Knows P w K mg base 3 "arranged" ["wheel", "span", "seen"] (sp_arranged K ec)) (c__law_same : Knows P w K mg base 2 "_law_same" ["_law_found", "_law_due_here"] (sp_same 1)) (c_ring : Knows P w K mg base 4 "ring" ["wheel", "seen"] (sp_ring K ec)) (c__law_due : Knows P w K mg base 1 "_law_due" ["_law_wheel_here", "_law_span", "_law_seen_here"] (sp_ldue K [(PL__law_due, qL__law_due), (PL, qL)])) : FnOk P w K mg base (L2.CX P w) 7 f0 (PySem.W.fnOf "law" "law" (defArgs s_law) (defBody s_law) (defScope s_law) .none kV0 dc0 pm0 an0 (.ref cL) ct0) ["_law_script"] (sp_lawTs K [PL__law_due, PL]) := by
  refine fn_of lk hcd sc_law (fun vs H Q E h => ?_) (fun A outer s H vs Q E hr h => ?_)
  · obtain ⟨s, ns, rfl, _⟩ := h; rfl
  · obtain ⟨s, ns, rfl, hS, hl, hP, k⟩ := h
    refine ⟨_, (pss_cons (ps_set (i := 1) sc_law.nd rfl (Or.inl rfl) (pe_callN c__law_start (hr.mono (by first | decide | omega)) passD (pa_cons (pv 0) pa_nil)))
    (pss_cons (ps_for passO rfl (pi_range1 (by rfl) T.range (pa_cons pe_int pa_nil)) (pg_name (i := 2) sc_law.nd rfl (Or.inl rfl)) (pss_cons (ps_set (i := 3) sc_law.nd rfl (Or.inr rfl) (pe_callN c__law_wheel (hr.mono (by first | decide | omega)) passD (pa_cons (pv 1) pa_nil)))
    (pss_cons (ps_asg (pe_callN c__law_seen (hr.mono (by first | decide | omega)) passD (pa_cons (pv 1) (pa_cons (pv 3) (pa_cons (pe_ix ix_list (pe_lst (pa_cons pe_int (pa_cons pe_int (pa_cons pe_int (pa_cons pe_int pa_nil))))) (pe_callN c__law_drawn (hr.mono (by first | decide | omega)) passD (pa_cons (pv 1) (pa_cons pe_int pa_nil))) (fun _ _ => rfl)) pa_nil)))) (pg_tup (n := 2) rfl (pgs_cons (pg_name (i := 4) sc_law.nd rfl (Or.inl rfl)) (pgs_cons (pg_name (i := 5) sc_law.nd rfl (Or.inl rfl)) pgs_nil))))
    (pss_cons (ps_set (i := 6) sc_law.nd rfl (Or.inl rfl) (pe_ifExp (pt_cmpR (op_neD hr.units) (pv 4) (pe_lst pa_nil) (nomark _)) (pe_op op_sub (pe_callB (cr_max rfl) (by rfl) T.max (by decide +kernel) (pa_cons (pv 4) pa_nil)) (pe_callB (cr_min rfl) (by rfl) T.min (by decide +kernel) (pa_cons (pv 4) pa_nil))) pe_int))
    (pss_cons (ps_set (i := 7) sc_law.nd rfl (Or.inr rfl) (pe_ix ix_list (pe_lst (pa_cons (pe_callB (call_min2N rfl) (by rfl) T.min (by decide +kernel) (pa_cons (pe_op op_sub (pv 3) pe_int) (pa_cons (pv 6) pa_nil))) (pa_cons (pe_callB (call_max2N rfl) (by rfl) T.max (by decide +kernel) (pa_cons pe_int (pa_cons (pe_op op_sub (pe_callB (call_min2N rfl) (by rfl) T.min (by decide +kernel) (pa_cons (pv 3) (pa_cons (pv 6) pa_nil))) pe_int) pa_nil))) (pa_cons (pe_callN c__law_drawn (hr.mono (by first | decide | omega)) passD (pa_cons (pv 1) (pa_cons (pv 3) pa_nil))) pa_nil)))) (pe_callN c__law_drawn (hr.mono (by first | decide | omega)) passD (pa_cons (pv 1) (pa_cons pe_int pa_nil))) (fun _ _ => rfl)))
    (pss_cons (ps_set (i := 8) sc_law.nd rfl (Or.inr rfl) (pe_callTy call_listN (by rfl) T.list (by decide +kernel) (pa_cons (pv 5) pa_nil)))
    (pss_cons (ps_for passO rfl (pi_range1 (by rfl) T.range (pa_cons pe_int pa_nil)) (pg_name (i := 9) sc_law.nd rfl (Or.inl rfl)) (pss_cons (ps_set (i := 10) sc_law.nd rfl (Or.inl rfl) (pe_lamN (T := [(PL__law_due, qL__law_due), (PL, qL)]) (TT := TKind K ec) (t := fun E => (tCall (sp_arranged K ec) [] E (tCons (tVar 3) (tCons (tVar 7) (tCons (tVar 8) tNil))))) D__law_kind (by rfl) (fun _ _ _ _ _ _ us hl => match us, hl with | [_], _ => rfl) sc__law_kind rfl (by first | exact Or.inl rfl | exact Or.inr (Or.inl rfl)) (fun g cdv => kind_gives _ T g cdv _) TB rfl (.tail _ (.head _)) (tab_u1 hPP) (k := 4) (hr.mono (by first | decide | omega)) (by exact LamX.lamS_by (sc := defScope s_law) (by decide +kernel)) rfl (fun _ _ _ _ _ => rfl) (fun A outer s H E f c1 hr2 => (pe_callL c_arranged (hr2.mono (by first | decide | omega)) (by exact (pa_cons (pv 3) (pa_cons (pv 7) (pa_cons (pv 8) pa_nil))))))))
    (pss_cons (ps_if (PW.pt (pw_or (pt_not (pt_val (pe_callN c__law_same (hr.mono (by first | decide | omega)) passD (pa_cons (pv 10) (pa_cons (pe_callN c__law_due (hr.mono (by first | decide | omega)) passD (pa_cons (pv 3) (pa_cons (pv 7) (pa_cons (pv 5) pa_nil)))) pa_nil))) (by intro _; rfl))) (pw_or1 (pt_cmpR (op_neD hr.units) (pv 8) (pv 5) (nomark _))))) (pss_one (ps_ret pe_bl)) pss_nil)
    (pss_one (ps_if (pt_val (pe_callB call_isi (by rfl) T.isinstance (by decide +kernel) (pa_cons (pv 10) (pa_cons (pe_bltn (v := .ty "list") (u := .type "list") (by rfl) T.list (by decide +kernel) rfl) pa_nil))) (by intro _; rfl)) (pss_one (ps_expr (pe_bm PySem.F.plainAttrs_list PySem.F.slot_list_append PySem.F.type_list_append mt_append (pv 10) (pa_cons pe_int pa_nil)))) pss_nil)))))
    (pss_cons (ps_set (i := 11) sc_law.nd rfl (Or.inr rfl) (pe_callN c__law_far (hr.mono (by first | decide | omega)) passD (pa_cons (pv 1) (pa_cons pe_int (pa_cons (pe_op op_sub (pv 3) pe_int) pa_nil)))))
    (pss_cons (ps_set (i := 12) sc_law.nd rfl (Or.inl rfl) (pe_callN c__law_drawn (hr.mono (by first | decide | omega)) passD (pa_cons (pv 1) (pa_cons (pe_op op_add (pe_callB call_lenN (by rfl) T.len PySem.boot_len (pa_cons (pv 5) pa_nil)) pe_int) pa_nil))))
    (pss_cons (ps_set (i := 13) sc_law.nd rfl (Or.inr rfl) (pe_ix ix_list (pe_lst (pa_cons (pe_op op_cat (pe_op op_cat (pe_slice sl_list (pv 5) po_none (po_some (pv 12))) (pe_lst (pa_cons (pv 11) pa_nil))) (pe_slice sl_list (pv 5) (po_some (pv 12)) po_none)) (pa_cons (pe_op op_rep (pe_lst (pa_cons pe_int pa_nil)) (pe_op op_add pe_int (pe_callN c__law_drawn (hr.mono (by first | decide | omega)) passD (pa_cons (pv 1) (pa_cons pe_int pa_nil))))) pa_nil))) (pe_callN c__law_drawn (hr.mono (by first | decide | omega)) passD (pa_cons (pv 1) (pa_cons pe_int pa_nil))) (fun _ _ => rfl)))
    (pss_cons (ps_if (pt_cmpR op_ne (pe_lamN (T := [(PL__law_due, qL__law_due), (PL, qL)]) (TT := TKind K ec) (t := fun E => (tCall (sp_arranged K ec) [] E (tCons (tVar 3) (tCons (tVar 11) (tCons (tVar 13) tNil))))) D__law_kind (by rfl) (fun _ _ _ _ _ _ us hl => match us, hl with | [_], _ => rfl) sc__law_kind rfl (by first | exact Or.inl rfl | exact Or.inr (Or.inl rfl)) (fun g cdv => kind_gives _ T g cdv _) TB rfl (.tail _ (.head _)) (tab_u1 hPP) (k := 4) (hr.mono (by first | decide | omega)) (by exact LamX.lamS_by (sc := defScope s_law) (by decide +kernel)) rfl (fun _ _ _ _ _ => rfl) (fun A outer s H E f c1 hr2 => (pe_callL c_arranged (hr2.mono (by first | decide | omega)) (by exact (pa_cons (pv 3) (pa_cons (pv 11) (pa_cons (pv 13) pa_nil))))))) pe_str (nomark _)) (pss_one (ps_ret pe_bl)) pss_nil)
    (pss_cons (ps_if (pt_cmpR op_ne (pe_lamN (T := [(PL__law_due, qL__law_due), (PL, qL)]) (TT := TKind K ec) (t := fun E => (tCall (sp_arranged K ec) [] E (tCons (tVar 3) (tCons (tVar 7) (tCons (tVar 13) tNil))))) D__law_kind (by rfl) (fun _ _ _ _ _ _ us hl => match us, hl with | [_], _ => rfl) sc__law_kind rfl (by first | exact Or.inl rfl | exact Or.inr (Or.inl rfl)) (fun g cdv => kind_gives _ T g cdv _) TB rfl (.tail _ (.head _)) (tab_u1 hPP) (k := 4) (hr.mono (by first | decide | omega)) (by exact LamX.lamS_by (sc := defScope s_law) (by decide +kernel)) rfl (fun _ _ _ _ _ => rfl) (fun A outer s H E f c1 hr2 => (pe_callL c_arranged (hr2.mono (by first | decide | omega)) (by exact (pa_cons (pv 3) (pa_cons (pv 7) (pa_cons (pv 13) pa_nil))))))) pe_str (nomark _)) (pss_one (ps_ret pe_bl)) pss_nil)
    (pss_one (ps_if (pt_cmpR op_ne (pe_lamN (T := [(PL__law_due, qL__law_due), (PL, qL)]) (TT := TKind K ec) (t := fun E => (tCall (sp_ring K ec) [] E (tCons (tVar 3) (tCons (tVar 13) tNil)))) D__law_kind (by rfl) (fun _ _ _ _ _ _ us hl => match us, hl with | [_], _ => rfl) sc__law_kind rfl (by first | exact Or.inl rfl | exact Or.inr (Or.inl rfl)) (fun g cdv => kind_gives _ T g cdv _) TB rfl (.tail _ (.head _)) (tab_u1 hPP) (k := 4) (hr.mono (by first | decide | omega)) (by exact LamX.lamS_by (sc := defScope s_law) (by decide +kernel)) rfl (fun _ _ _ _ _ => rfl) (fun A outer s H E f c1 hr2 => (pe_callL c_ring (hr2.mono (by first | decide | omega)) (by exact (pa_cons (pv 3) (pa_cons (pv 13) pa_nil)))))) pe_str (nomark _)) (pss_one (ps_ret pe_bl)) pss_nil))))))))))))))
    (pss_one (ps_ret pe_bl)))), ?_⟩
    refine g_start (σ := [some _, none, none, none, none, none, none, none, none, none, none, none, none, none]) rfl ?_
    try dsimp only [cxOf]
    have hT0 : LamX.Tabs [(PL__law_due, qL__law_due), (PL, qL)] H := fun p hp => by
      have hp : p = (PL__law_due, qL__law_due) ∨ p = (PL, qL) := by simpa using hp
      rcases hp with rfl | rfl
      · exact LamX.TabS.nil (hP _ (by simp))
      · exact LamX.TabS.nil (hP _ (by simp))
    walk_at "go"
    refine ⟨s, ns, rfl, hS, hl, fun a H1 ha e1 hD1 => ?_⟩
    walk_at "go"
    refine ⟨by decide, by decide, for_R (fun i σ H' => Dr K a s H' ∧ LamX.Tabs [(PL__law_due, qL__law_due), (PL, qL)] H' ∧ ∃ v2 v3 v4 v5 v6 v7 v8 v9 v10 v11 v12 v13, σ = [some (.ref s), some (.ref a), v2, v3, v4, v5, v6, v7, v8, v9, v10, v11, v12, v13]) ⟨hD1, tabs_same hT0 e1, _, _, _, _, _, _, _, _, _, _, _, _, rfl⟩ ?_ ?_⟩
    · rintro i σ H2 hi ⟨hD2, hT2, v2, v3, v4, v5, v6, v7, v8, v9, v10, v11, v12, v13, rfl⟩
      walk_at "go"
      refine ⟨a, s, rfl, hD2, fun n H3 hn g3 => ?_⟩
      have hn1 := hn.1
      have hn2 := hn.2
      walk_at "go"
      intro p0 hp0
      walk_at "go"
      refine g_pickI (m := 4) (zs := [12, 12, 12, 59]) hp0 g3.dr (by decide) rfl (fun mm H4 hmm g4 => ?_)
      have hmm : 0 ≤ mm ∧ mm ≤ 59 := by
        simp only [List.mem_cons, List.not_mem_nil, or_false] at hmm
        omega
      walk_at "go"
      refine ⟨a, s, n, mm, rfl, g4.dr, hn, hmm.1, by omega, fun p L1 L2 ts H5 hlen hL1 hL2 hne hp h1 h2 g5 => ?_⟩
      have hD5 := g5.dr
      have hT5 : LamX.Tabs [(PL__law_due, qL__law_due), (PL, qL)] H5 := tabs_go (tabs_go (tabs_go hT2 hD2 g3) g3.dr g4) g4.dr g5
      have nL2 : L2 ≠ a := g4.dr.ne hL2
      have htl : ts.length ≤ 60 := by omega
      have hrow : RowOk n (ts.map (· % n)) := ⟨by rw [List.length_map]; exact htl, fun x hx => by
        obtain ⟨t, _, rfl⟩ := List.mem_map.mp hx
        exact ⟨Int.emod_nonneg _ (by omega), Int.emod_lt_of_pos _ (by omega)⟩⟩
      clear g3 g4 g5 hp0 hL1 hL2
      walk_at "goS"
      refine g_tup2 (SqT.of hp) ?_
      walk_at "goE"
      refine g_cutE (fun v H' => ∃ wd, v = .int wd ∧ 0 ≤ wd ∧ Same H5 H') (fun Q' hQ => ?_) ?_
      · walk_at "go"
        intro p5 hp5
        have e5 := Same.new hp5 (o := .lst [])
        refine g_neInts (ms := []) (SqL.of (e5 _ _ h1)) (SqL.of upd_same) ?_
        walk_at "go"
        refine ite_ndec (fun hne => ?_) (fun hne => ?_)
        · walk_at "go"
          have hpos : 0 < ts.length := by
            cases ts with
            | nil => exact absurd rfl hne
            | cons z zr => exact Nat.succ_pos _
          refine ⟨L1, ts, rfl, SqL.of (e5 _ _ h1), hpos, fun M hM hMle => ?_⟩
          walk_at "go"
          refine ⟨L1, ts, rfl, SqL.of (e5 _ _ h1), hpos, fun m hm hmle => ?_⟩
          walk_at "go"
          refine hQ _ _ ⟨M - m, rfl, ?_, e5⟩
          have := hmle M hM
          omega
        · walk_at "go"
          exact hQ _ _ ⟨0, rfl, by decide, e5⟩
      · rintro v H6 ⟨wd, rfl, hwd, e6⟩
        have h2 := e6 _ _ h2
        have hD6 := hD5.same e6
        have hT6 := tabs_same hT5 e6
        clear e6 hp hT5 h1 hD5 hlen hne
        generalize hns : ts.map (· % n) = rs at *
        have hrl : rs.length ≤ 60 := hrow.1
        clear hns htl
        walk_at "goE"
        refine ⟨a, s, n, rfl, hD6, ⟨by omega, by omega⟩, fun r7 H7 h70 h71 g7 => ?_⟩
        walk_at "goE"
        intro p8 hp8
        walk_at "goE"
        refine g_pickI (m := 3) (zs := [if wd < n - 1 then wd else n - 1, if (if wd < n then wd else n) - 1 > 0 then (if wd < n then wd else n) - 1 else 0, r7]) hp8 g7.dr (by decide) rfl (fun sp H8 hsp g8 => ?_)
        have hsp : Se n sp := by
          simp only [List.mem_cons, List.not_mem_nil, or_false] at hsp
          rcases hsp with e | e | e
          · subst e
            split <;> constructor <;> omega
          · subst e
            constructor
            · split <;> omega
            · split <;> split at * <;> omega
          · subst e
            exact ⟨h70, h71⟩
        have h2 := (g7.trans g8).at h2 nL2
        have hD8 := g8.dr
        have hT8 := tabs_go (tabs_go hT6 hD6 g7) g7.dr g8
        clear g7 g8 hp8
        walk_at "go"
        refine g_listL (SqL.of h2) (fun hd hhd => ?_)
        have e9 := Same.new hhd (o := .lst (rs.map V.int))
        have nhL : hd ≠ L2 := (ne_of_none h2 hhd).symm
        have nha : hd ≠ a := hD8.ne hhd
        have hD9 := hD8.same e9
        have hT9 := tabs_same hT8 e9
        have h3 : upd H8 hd (.lst (rs.map V.int)) hd = some (.lst (rs.map V.int)) := upd_same
        have h2 := e9 _ _ h2
        generalize upd H8 hd (.lst (rs.map V.int)) = H9 at *
        clear e9 hhd hT8 hD8 hT6 hD6
        walk_at "go"
        refine ⟨by decide, by decide, for_R (fun j σ H' => Dr K a s H' ∧ LamX.Tabs [(PL__law_due, qL__law_due), (PL, qL)] H' ∧ H' L2 = some (.lst (rs.map V.int)) ∧ H' hd = some (.lst (rs.map V.int)) ∧
          ∃ v9 v10, σ = [some (.ref s), some (.ref a), some (.int (0 + (i : Nat))), some (.int n), some (.ref L1), some (.ref L2), some (.int wd), some (.int sp), some (.ref hd), v9, v10, v11, v12, v13]) ⟨hD9, hT9, h2, h3, _, _, rfl⟩ ?_ ?_⟩
        · rintro j σ H10 hj ⟨hD10, hT10, f2, f3, v9, v10, rfl⟩
          walk_at "goS"
          refine g_cutE (fun v H' => FoundR n sp rs v H' a L2 hd ∧ (∀ f, v = .ref f → ∃ H0, Dr K a s H0 ∧ H0 f = none) ∧ Dr K a s H' ∧ LamX.Tabs [(PL__law_due, qL__law_due), (PL, qL)] H' ∧ H' L2 = some (.lst (rs.map V.int)) ∧ H' hd = some (.lst (rs.map V.int))) (fun Q' hQ => ?_) ?_
          · refine g_lam hT10 (fun H11 e11 hT11 => ?_)
            try unfold TKind
            have q2 := extN_lst e11 f2
            have q3 := extN_lst e11 f3
            have hD11 := hD10.ext e11
            walk_at "go"
            refine ⟨n, sp, hd, rs, rfl, SqL.of q3, ?_, ?_, ?_, fun z => absurd hn z, fun _ z => absurd hsp z, fun _ _ z => absurd hrow z, ?_⟩
            · intro _ _ _ hnil p12 H12 hp12 e12 h12
              exact hQ _ _ ⟨.inl ⟨p12, [], rfl, h12, hD11.ne hp12, (ne_of_none q2 hp12).symm, (ne_of_none q3 hp12).symm, .inl ⟨hnil, rfl⟩⟩, (fun f z => by cases z; exact ⟨_, hD11, hp12⟩), hD11.same e12, tabs_same hT11 e12, e12 _ _ q2, e12 _ _ q3⟩
            · intro _ _ _ b b' hb hb' hne H12 e12
              exact hQ _ _ ⟨.inr (.inl ⟨rfl, b, b', hb, hb', hne⟩), (fun f z => by cases z), hD11.same e12, tabs_same hT11 e12, e12 _ _ q2, e12 _ _ q3⟩
            · intro _ _ _ b js hb huniq ho p12 H12 hp12 e12 h12
              exact hQ _ _ ⟨.inl ⟨p12, js, rfl, h12, hD11.ne hp12, (ne_of_none q2 hp12).symm, (ne_of_none q3 hp12).symm, .inr ⟨b, hb, huniq, ho⟩⟩, (fun f z => by cases z; exact ⟨_, hD11, hp12⟩), hD11.same e12, tabs_same hT11 e12, e12 _ _ q2, e12 _ _ q3⟩
            · intro _ _ _ hnn hno H12 e12
              refine EKind.mk T.q_NoSpan (fun H13 e13 => ?_)
              exact hQ _ _ ⟨.inr (.inr ⟨rfl, hnn, hno⟩), (fun f z => by cases z), (hD11.same e12).same e13, tabs_same (tabs_same hT11 e12) e13, e13 _ _ (e12 _ _ q2), e13 _ _ (e12 _ _ q3)⟩
          · rintro v H11 ⟨hF, hfr, hD11, hT11, q2, q3⟩
            walk_at "goS"
            refine g_cutS (fun σ' H' => σ' = [some (.ref s), some (.ref a), some (.int (0 + (i : Nat))), some (.int n), some (.ref L1), some (.ref L2), some (.int wd), some (.int sp), some (.ref hd), some (.int (0 + (j : Nat))), some v, v11, v12, v13] ∧ LamX.ExtN H11 H' ∧ LamX.Tabs [(PL__law_due, qL__law_due), (PL, qL)] H') (fun N hN => ?_) ?_
            · refine g_ifS ?_
              refine g_or (g_not ?_)
              refine g_cut (fun b H' => b = true ∧ LamX.ExtN H11 H' ∧ LamX.Tabs [(PL__law_due, qL__law_due), (PL, qL)] H') (fun QB hQB => ?_) ?_
              · walk_at "go"
                refine ⟨n, sp, L2, rs, rfl, q2, by omega, by omega, hT11, ?_, ?_, ?_, ?_⟩
                · intro hnil p12 H12 e12 hT12 h12
                  rcases hF with ⟨f, js, rfl, hf, _, _, _, hc⟩ | ⟨rfl, b, b', hb, _⟩ | ⟨rfl, hnn, _⟩
                  · have hj : js = [] := by
                      rcases hc with ⟨_, h⟩ | ⟨b, hb, _⟩
                      · exact h
                      · rw [hnil] at hb
                        exact (bg_nil hb).elim
                    subst hj
                    walk_at "go"
                    refine ⟨_, _, rfl, sd_nats (extN_lst e12 hf) h12 (by simp), fun H13 e13 => ?_⟩
                    walk_at "go"
                    exact hQB _ _ ⟨rfl, e12.trans (extN_same e13), tabs_same hT12 e13⟩
                  · rw [hnil] at hb
                    exact (bg_nil hb).elim
                  · exact absurd hnil hnn
                · intro b b' hb hb' hne H12 e12 hT12
                  rcases hF with ⟨f, js, rfl, hf, _, _, _, hc⟩ | ⟨rfl, _⟩ | ⟨rfl, hnn, hno⟩
                  · exfalso
                    rcases hc with ⟨hnil, _⟩ | ⟨c, _, hu, _⟩
                    · rw [hnil] at hb
                      exact bg_nil hb
                    · exact hne ((hu b hb).trans (hu b' hb').symm)
                  · walk_at "go"
                    refine ⟨_, _, rfl, .non, fun H13 e13 => ?_⟩
                    walk_at "go"
                    exact hQB _ _ ⟨rfl, e12.trans (extN_same e13), tabs_same hT12 e13⟩
                  · exact absurd hb (hno b)
                · intro b js' hb hu ho p12 H12 e12 hT12 h12
                  rcases hF with ⟨f, js, rfl, hf, _, _, _, hc⟩ | ⟨rfl, c, c', hc, hc', hne⟩ | ⟨rfl, hnn, hno⟩
                  · have ej : js = js' := by
                      rcases hc with ⟨hnil, _⟩ | ⟨c, hc, _, ho'⟩
                      · rw [hnil] at hb
                        exact (bg_nil hb).elim
                      · have := hu c hc
                        subst this
                        exact ordered_same ho' ho
                    subst ej
                    have jl : js.length = rs.length := by rw [ho.1.length_eq, List.length_range]
                    walk_at "go"
                    refine ⟨_, _, rfl, sd_nats (extN_lst e12 hf) h12 (by omega), fun H13 e13 => ?_⟩
                    walk_at "go"
                    exact hQB _ _ ⟨rfl, e12.trans (extN_same e13), tabs_same hT12 e13⟩
                  · exact absurd ((hu c hc).trans (hu c' hc').symm) hne
                  · exact absurd hb (hno b)
                · intro hnn hno H12 e12 hT12
                  rcases hF with ⟨f, js, rfl, hf, _, _, _, hc⟩ | ⟨rfl, c, c', hc, hc', hne⟩ | ⟨rfl, _, _⟩
                  · exfalso
                    rcases hc with ⟨hnil, _⟩ | ⟨c, hc, _⟩
                    · exact hnn hnil
                    · exact hno c hc
                  · exact absurd hc (hno c)
                  · walk_at "go"
                    refine ⟨_, _, rfl, .str _, fun H13 e13 => ?_⟩
                    walk_at "go"
                    exact hQB _ _ ⟨rfl, e12.trans (extN_same e13), tabs_same hT12 e13⟩
              · rintro b H12 ⟨rfl, e12, hT12⟩
                walk_at "go"
                refine g_neInts (SqL.of (extN_lst e12 q3)) (SqL.of (extN_lst e12 q2)) ?_
                rw [decide_eq_true rfl]
                walk_at "go"
                exact hN _ _ ⟨rfl, e12, hT12⟩
            · rintro σ' H12 ⟨rfl, e12, hT12⟩
              have q2 := extN_lst e12 q2
              have q3 := extN_lst e12 q3
              have hD12 := hD11.ext e12
              walk_at "go"
              rcases hF with ⟨f, js, rfl, hf, n1, n2, n3, hc⟩ | ⟨rfl, _⟩ | ⟨rfl, _⟩
              · have hf := extN_lst e12 hf
                have jl : js.length ≤ 60 := by
                  rcases hc with ⟨_, hj⟩ | ⟨c, _, _, ho⟩
                  · rw [hj]
                    exact Nat.zero_le _
                  · rw [ho.1.length_eq, List.length_range]
                    exact hrl
                refine g_isi (.base (.lst hf)) (r := true) (by decide +kernel) ?_
                walk_at "go"
                refine g_tyL (SqL.of hf) ?_
                walk_at "go"
                refine g_app hf (by unfold natsV; rw [List.length_map]; omega) ?_
                obtain ⟨H0, d0, z0⟩ := hfr f rfl
                exact ⟨d0.mut hD12 z0, tabs_ls hT12 hf, by rw [upd_ne n2.symm]; exact q2, by rw [upd_ne n3.symm]; exact q3, _, _, rfl⟩
              · refine g_isi (.base .non) (r := false) (by decide +kernel) ?_
                walk_at "go"
                exact ⟨hD12, hT12, q2, q3, _, _, rfl⟩
              · refine g_isi (.base (.str _)) (r := false) (by decide +kernel) ?_
                walk_at "go"
                exact ⟨hD12, hT12, q2, q3, _, _, rfl⟩
        · rintro σ H10 ⟨hD10, hT10, f2, _, v9, v10, rfl⟩
          walk_at "go"
          refine ⟨a, s, 0, n - 1, rfl, hD10, fun odd H11 hodd g11 => ?_⟩
          have hno : ¬ Se n odd := fun z => by
            have z1 := z.1
            have z2 := z.2
            omega
          walk_at "go"
          have f2 := g11.at f2 nL2
          refine g_lenL (SqL.of f2) ?_
          walk_at "go"
          refine ⟨a, s, _, rfl, g11.dr, ⟨by rw [List.length_map]; omega, by rw [List.length_map]; omega⟩, fun m H12 h120 h121 g12 => ?_⟩
          have f2 := g12.at f2 nL2
          have hD12 := g12.dr
          have hT12 := tabs_go (tabs_go hT10 hD10 g11) g11.dr g12
          clear g11 g12 h120 h121 hT10 hD10
          dsimp only
          refine g_name12 ?_
          refine g_seq ?_
          refine g_asg ?_
          refine g_cutE (fun v H' => ∃ B zs, v = .ref B ∧ H' B = some (.lst (zs.map V.int)) ∧ ¬ RowOk n zs ∧ Dr K a s H' ∧ LamX.Tabs [(PL__law_due, qL__law_due), (PL, qL)] H') (fun Q' hQ => ?_) ?_
          · walk_at "go"
            refine g_sl ?_
            walk_at "go"
            refine g_noP (g_part ?_)
            walk_at "go"
            refine g_slL (SqL.of f2) (fun p1 hp1 => ?_)
            obtain ⟨ys1, ey1, hy1⟩ := cutV_ints rs none (some m)
            rw [ey1]
            have s1 := Same.new hp1 (o := .lst (ys1.map V.int))
            walk_at "go"
            intro p2 hp2
            have s2 := Same.new hp2 (o := .lst [V.int odd])
            refine g_cat (s2 _ _ upd_same) upd_same (by rw [List.length_map, List.length_singleton]; omega) (fun p3 hp3 => ?_)
            have s3 := Same.new hp3 (o := .lst (ys1.map V.int ++ [V.int odd]))
            have w3 := (s1.trans s2).trans s3
            walk_at "go"
            refine g_sl ?_
            walk_at "go"
            refine g_part ?_
            walk_at "go"
            refine g_noP ?_
            refine g_slL (SqL.of (w3 _ _ f2)) (fun p4 hp4 => ?_)
            obtain ⟨ys2, ey2, hy2⟩ := cutV_ints rs (some m) none
            rw [ey2]
            have s4 := Same.new hp4 (o := .lst (ys2.map V.int))
            walk_at "go"
            refine g_cat (s4 _ _ upd_same) upd_same (by rw [List.length_append, List.length_map, List.length_map, List.length_singleton]; omega) (fun p5 hp5 => ?_)
            have s5 := Same.new hp5 (o := .lst (ys1.map V.int ++ [V.int odd] ++ ys2.map V.int))
            have w5 := (w3.trans s4).trans s5
            have hD5x : p5 ≠ a := (hD12.same (w3.trans s4)).ne hp5
            have u5 : upd (upd (upd (upd (upd H12 p1 (.lst (ys1.map V.int))) p2 (.lst [V.int odd])) p3 (.lst (ys1.map V.int ++ [V.int odd]))) p4 (.lst (ys2.map V.int))) p5 (.lst (ys1.map V.int ++ [V.int odd] ++ ys2.map V.int)) p5 = some (.lst ((ys1 ++ [odd] ++ ys2).map V.int)) := by
              rw [upd_same, List.map_append, List.map_append]
              rfl
            generalize upd (upd (upd (upd (upd H12 p1 (.lst (ys1.map V.int))) p2 (.lst [V.int odd])) p3 (.lst (ys1.map V.int ++ [V.int odd]))) p4 (.lst (ys2.map V.int))) p5 (.lst (ys1.map V.int ++ [V.int odd] ++ ys2.map V.int)) = H13 at *
            have hD13 := hD12.same w5
            have hT13 := tabs_same hT12 w5
            have n5 : p5 ≠ a := hD5x
            walk_at "go"
            intro p6 hp6
            have s6 := Same.new hp6 (o := .lst [V.int 0])
            have n6 := hD13.ne hp6
            walk_at "go"
            refine ⟨a, s, 3, rfl, hD13.same s6, by decide, fun r H14 h140 h141 g14 => ?_⟩
            walk_at "go"
            refine g_repI (g14.at upd_same n6) (by omega) (by omega) (fun p7 hp7 => ?_)
            have s7 := Same.new hp7 (o := .lst ((List.replicate (61 + r).toNat (0 : Int)).map V.int))
            walk_at "go"
            intro p8 hp8
            have n7 := g14.dr.ne hp7
            have t5 := s7 _ _ (g14.at (s6 _ _ u5) n5)
            have hD15 := g14.dr.same s7
            have hT15 := tabs_same (tabs_go (tabs_same hT13 s6) (hD13.same s6) g14) s7
            have t7 : upd H14 p7 (.lst ((List.replicate (61 + r).toNat (0 : Int)).map V.int)) p7 = some (.lst ((List.replicate (61 + r).toNat (0 : Int)).map V.int)) := upd_same
            generalize upd H14 p7 (.lst ((List.replicate (61 + r).toNat (0 : Int)).map V.int)) = H15 at *
            walk_at "go"
            refine g_pick (m := 2) (xs := [V.ref p5, V.ref p7]) hp8 hD15 (by decide) rfl (fun v H16 hv _ g16 _ => ?_)
            have hT16 := tabs_go hT15 hD15 g16
            simp only [List.mem_cons, List.not_mem_nil, or_false] at hv
            rcases hv with rfl | rfl
            · exact hQ _ _ ⟨p5, _, rfl, g16.at t5 n5, fun z => hno (z.2 odd (by simp)), g16.dr, hT16⟩
            · exact hQ _ _ ⟨p7, _, rfl, g16.at t7 n7, fun z => by
                have := z.1
                rw [List.length_replicate] at this
                omega, g16.dr, hT16⟩
          · rintro v H13 ⟨B, zs, rfl, hB, hnr, hD13, hT13⟩
            walk_at "go"
            refine g_lam hT13 (fun H14 e14 hT14 => ?_)
            try unfold TKind
            walk_at "go"
            refine ⟨n, odd, B, zs, rfl, SqL.of (extN_lst e14 hB), fun _ z => absurd z hno, fun _ z => absurd z hno, fun _ z => absurd z hno, fun z => absurd hn z, fun _ _ => EKind.mk T.q_BadSpan (fun H15 e15 => ?_), fun _ z => absurd z hno, fun _ z => absurd z hno⟩
            walk_at "go"
            refine ite_ndec (fun z => (z rfl).elim) (fun _ => ?_)
            have hB := (e15 _ _ (extN_lst e14 hB))
            have hD15 := (hD13.ext e14).same e15
            have hT15 := tabs_same hT14 e15
            clear e14 e15 hD13 hT14 hT13
            walk_at "go"
            refine g_lam hT15 (fun H16 e16 hT16 => ?_)
            try unfold TKind
            walk_at "go"
            refine ⟨n, sp, B, zs, rfl, SqL.of (extN_lst e16 hB), fun _ _ z => absurd z hnr, fun _ _ z => absurd z hnr, fun _ _ z => absurd z hnr, fun z => absurd hn z, fun _ z => absurd hsp z, fun _ _ _ => EKind.mk T.q_BadSeen (fun H17 e17 => ?_), fun _ _ z => absurd z hnr⟩
            walk_at "go"
            refine ite_ndec (fun z => (z rfl).elim) (fun _ => ?_)
            have hB := (e17 _ _ (extN_lst e16 hB))
            have hD17 := (hD15.ext e16).same e17
            have hT17 := tabs_same hT16 e17
            clear e16 e17 hD15 hT15 hT16
            walk_at "go"
            refine g_lam hT17 (fun H18 e18 hT18 => ?_)
            try unfold TKind
            walk_at "go"
            refine ⟨n, B, zs, rfl, SqL.of (extN_lst e18 hB), fun _ z => absurd z hnr, fun _ z => absurd z hnr, fun z => absurd hn z, fun _ _ => EKind.mk T.q_BadSeen (fun H19 e19 => ?_)⟩
            walk_at "go"
            refine ite_ndec (fun z => (z rfl).elim) (fun _ => ?_)
            walk_at "go"
            exact ⟨(hD17.ext e18).same e19, tabs_same hT18 e19, _, _, _, _, _, _, _, _, _, _, _, _, rfl⟩
    · rintro σ H2 ⟨hD2, _, v2, v3, v4, v5, v6, v7, v8, v9, v10, v11, v12, v13, rfl⟩
      walk_at "go"
      exact k H2
end
end My
namespace My
open PySem PySem.Spec PyProof.Rows L2
section
variable {P : Program} {w : World} {K : PySem.W.Frag} {mg : Str → Option Value} {base : Heap} {ec : Ec}
theorem all_mk {l : PySem.W.OpenLaw} {w : World} {K : PySem.W.Frag} {h : Heap} {mg : Str → Option Value} {fa : Addr} (X : K.In h) (G : h.Ns mainGlobals mg) (hfa : mg "law" = some (.ref fa))
    {f0 : Addr} {od0 an0 : Option Addr} {sl0 : Array (Option Value)} {oc0 kV0 dc0 pm0 cd0 ct0 : Value}
    {f1 : Addr} {od1 an1 : Option Addr} {sl1 : Array (Option Value)} {oc1 kV1 dc1 pm1 cd1 ct1 : Value}
    {f2 : Addr} {od2 an2 : Option Addr} {sl2 : Array (Option Value)} {oc2 kV2 dc2 pm2 cd2 ct2 : Value}
    {f3 : Addr} {od3 an3 : Option Addr} {sl3 : Array (Option Value)} {oc3 kV3 dc3 pm3 cd3 ct3 : Value}
    {f4 : Addr} {od4 an4 : Option Addr} {sl4 : Array (Option Value)} {oc4 kV4 dc4 pm4 cd4 ct4 : Value}
    {f5 : Addr} {od5 an5 : Option Addr} {sl5 : Array (Option Value)} {oc5 kV5 dc5 pm5 cd5 ct5 : Value}
    {f6 : Addr} {od6 an6 : Option Addr} {sl6 : Array (Option Value)} {oc6 kV6 dc6 pm6 cd6 ct6 : Value}
    {f7 : Addr} {od7 an7 : Option Addr} {sl7 : Array (Option Value)} {oc7 kV7 dc7 pm7 cd7 ct7 : Value}
    {f8 : Addr} {od8 an8 : Option Addr} {sl8 : Array (Option Value)} {oc8 kV8 dc8 pm8 cd8 ct8 : Value}
    {f9 : Addr} {od9 an9 : Option Addr} {sl9 : Array (Option Value)} {oc9 kV9 dc9 pm9 cd9 ct9 : Value}
    {f10 : Addr} {od10 an10 : Option Addr} {sl10 : Array (Option Value)} {oc10 kV10 dc10 pm10 cd10 ct10 : Value}
    {f11 : Addr} {od11 an11 : Option Addr} {sl11 : Array (Option Value)} {oc11 kV11 dc11 pm11 cd11 ct11 : Value}
    {f12 : Addr} {od12 an12 : Option Addr} {sl12 : Array (Option Value)} {oc12 kV12 dc12 pm12 cd12 ct12 : Value}
    {f13 : Addr} {od13 an13 : Option Addr} {sl13 : Array (Option Value)} {oc13 kV13 dc13 pm13 cd13 ct13 : Value}
    {f14 : Addr} {od14 an14 : Option Addr} {sl14 : Array (Option Value)} {oc14 kV14 dc14 pm14 cd14 ct14 : Value}
    {f15 : Addr} {od15 an15 : Option Addr} {sl15 : Array (Option Value)} {oc15 kV15 dc15 pm15 cd15 ct15 : Value}
    {f16 : Addr} {od16 an16 : Option Addr} {sl16 : Array (Option Value)} {oc16 kV16 dc16 pm16 cd16 ct16 : Value}
    {f17 cL__law_due PL__law_due : Addr} {od17 an17 ddL__law_due : Option Addr} {sl17 slL__law_due : Array (Option Value)} {vsL__law_due : Array Value} {oc17 kV17 dc17 pm17 ct17 eL__law_due : Value}
    {f18 cL PL : Addr} {od18 an18 ddL : Option Addr} {sl18 slL : Array (Option Value)} {vsL : Array Value} {oc18 kV18 dc18 pm18 ct18 eL : Value}
    {t_MOST_WHEEL : Tok}
    {t_MOST_SEEN : Tok}
    {C_BadWheel : Addr}
    {C_BadRule : Addr}
    {C_BadSeen : Addr}
    {C_BadGaps : Addr}
    {C_BadSpan : Addr}
    {C_BadLong : Addr}
    {C_NoGap : Addr}
    {C_NoSpan : Addr}
    {C_WrapError : Addr}
    (a0 : PySem.W.nsIn K mainGlobals "is_wheel" = some (some (.ref f0)))
    (l0 : K.lookup f0 = some ⟨oc0, od0, .func (PySem.W.fnOf "is_wheel" "is_wheel" (defArgs s_is_wheel) (defBody s_is_wheel) (defScope s_is_wheel) .none kV0 dc0 pm0 an0 cd0 ct0), sl0⟩)
    (c0 : PySem.W.codeIn K cd0 "is_wheel" = true)
    (k0 : PySem.W.keepIn K (.ref f0) = true)
    (a1 : PySem.W.nsIn K mainGlobals "need_wheel" = some (some (.ref f1)))
    (l1 : K.lookup f1 = some ⟨oc1, od1, .func (PySem.W.fnOf "need_wheel" "need_wheel" (defArgs s_need_wheel) (defBody s_need_wheel) (defScope s_need_wheel) .none kV1 dc1 pm1 an1 cd1 ct1), sl1⟩)
    (c1 : PySem.W.codeIn K cd1 "need_wheel" = true)
    (k1 : PySem.W.keepIn K (.ref f1) = true)
    (a2 : PySem.W.nsIn K mainGlobals "need_seen" = some (some (.ref f2)))
    (l2 : K.lookup f2 = some ⟨oc2, od2, .func (PySem.W.fnOf "need_seen" "need_seen" (defArgs s_need_seen) (defBody s_need_seen) (defScope s_need_seen) .none kV2 dc2 pm2 an2 cd2 ct2), sl2⟩)
    (c2 : PySem.W.codeIn K cd2 "need_seen" = true)
    (k2 : PySem.W.keepIn K (.ref f2) = true)
    (a3 : PySem.W.nsIn K mainGlobals "since_of" = some (some (.ref f3)))
    (l3 : K.lookup f3 = some ⟨oc3, od3, .func (PySem.W.fnOf "since_of" "since_of" (defArgs s_since_of) (defBody s_since_of) (defScope s_since_of) .none kV3 dc3 pm3 an3 cd3 ct3), sl3⟩)
    (c3 : PySem.W.codeIn K cd3 "since_of" = true)
    (k3 : PySem.W.keepIn K (.ref f3) = true)
    (a4 : PySem.W.nsIn K mainGlobals "order_of" = some (some (.ref f4)))
    (l4 : K.lookup f4 = some ⟨oc4, od4, .func (PySem.W.fnOf "order_of" "order_of" (defArgs s_order_of) (defBody s_order_of) (defScope s_order_of) .none kV4 dc4 pm4 an4 cd4 ct4), sl4⟩)
    (c4 : PySem.W.codeIn K cd4 "order_of" = true)
    (k4 : PySem.W.keepIn K (.ref f4) = true)
    (a5 : PySem.W.nsIn K mainGlobals "need_row" = some (some (.ref f5)))
    (l5 : K.lookup f5 = some ⟨oc5, od5, .func (PySem.W.fnOf "need_row" "need_row" (defArgs s_need_row) (defBody s_need_row) (defScope s_need_row) .none kV5 dc5 pm5 an5 cd5 ct5), sl5⟩)
    (c5 : PySem.W.codeIn K cd5 "need_row" = true)
    (k5 : PySem.W.keepIn K (.ref f5) = true)
    (a6 : PySem.W.nsIn K mainGlobals "arranged" = some (some (.ref f6)))
    (l6 : K.lookup f6 = some ⟨oc6, od6, .func (PySem.W.fnOf "arranged" "arranged" (defArgs s_arranged) (defBody s_arranged) (defScope s_arranged) .none kV6 dc6 pm6 an6 cd6 ct6), sl6⟩)
    (c6 : PySem.W.codeIn K cd6 "arranged" = true)
    (k6 : PySem.W.keepIn K (.ref f6) = true)
    (a7 : PySem.W.nsIn K mainGlobals "goes_round" = some (some (.ref f7)))
    (l7 : K.lookup f7 = some ⟨oc7, od7, .func (PySem.W.fnOf "goes_round" "goes_round" (defArgs s_goes_round) (defBody s_goes_round) (defScope s_goes_round) .none kV7 dc7 pm7 an7 cd7 ct7), sl7⟩)
    (c7 : PySem.W.codeIn K cd7 "goes_round" = true)
    (k7 : PySem.W.keepIn K (.ref f7) = true)
    (a8 : PySem.W.nsIn K mainGlobals "ring" = some (some (.ref f8)))
    (l8 : K.lookup f8 = some ⟨oc8, od8, .func (PySem.W.fnOf "ring" "ring" (defArgs s_ring) (defBody s_ring) (defScope s_ring) .none kV8 dc8 pm8 an8 cd8 ct8), sl8⟩)
    (c8 : PySem.W.codeIn K cd8 "ring" = true)
    (k8 : PySem.W.keepIn K (.ref f8) = true)
    (a9 : PySem.W.nsIn K mainGlobals "_law_start" = some (some (.ref f9)))
    (l9 : K.lookup f9 = some ⟨oc9, od9, .func (PySem.W.fnOf "_law_start" "_law_start" (defArgs s__law_start) (defBody s__law_start) (defScope s__law_start) .none kV9 dc9 pm9 an9 cd9 ct9), sl9⟩)
    (c9 : PySem.W.codeIn K cd9 "_law_start" = true)
    (k9 : PySem.W.keepIn K (.ref f9) = true)
    (a10 : PySem.W.nsIn K mainGlobals "_law_drawn" = some (some (.ref f10)))
    (l10 : K.lookup f10 = some ⟨oc10, od10, .func (PySem.W.fnOf "_law_drawn" "_law_drawn" (defArgs s__law_drawn) (defBody s__law_drawn) (defScope s__law_drawn) .none kV10 dc10 pm10 an10 cd10 ct10), sl10⟩)
    (c10 : PySem.W.codeIn K cd10 "_law_drawn" = true)
    (k10 : PySem.W.keepIn K (.ref f10) = true)
    (a11 : PySem.W.nsIn K mainGlobals "_law_same" = some (some (.ref f11)))
    (l11 : K.lookup f11 = some ⟨oc11, od11, .func (PySem.W.fnOf "_law_same" "_law_same" (defArgs s__law_same) (defBody s__law_same) (defScope s__law_same) .none kV11 dc11 pm11 an11 cd11 ct11), sl11⟩)
    (c11 : PySem.W.codeIn K cd11 "_law_same" = true)
    (k11 : PySem.W.keepIn K (.ref f11) = true)
    (a12 : PySem.W.nsIn K mainGlobals "_law_kind" = some (some (.ref f12)))
    (l12 : K.lookup f12 = some ⟨oc12, od12, .func (PySem.W.fnOf "_law_kind" "_law_kind" (defArgs s__law_kind) (defBody s__law_kind) (defScope s__law_kind) .none kV12 dc12 pm12 an12 cd12 ct12), sl12⟩)
    (c12 : PySem.W.codeIn K cd12 "_law_kind" = true)
    (k12 : PySem.W.keepIn K (.ref f12) = true)
    (a13 : PySem.W.nsIn K mainGlobals "_law_far" = some (some (.ref f13)))
    (l13 : K.lookup f13 = some ⟨oc13, od13, .func (PySem.W.fnOf "_law_far" "_law_far" (defArgs s__law_far) (defBody s__law_far) (defScope s__law_far) .none kV13 dc13 pm13 an13 cd13 ct13), sl13⟩)
    (c13 : PySem.W.codeIn K cd13 "_law_far" = true)
    (k13 : PySem.W.keepIn K (.ref f13) = true)
    (a14 : PySem.W.nsIn K mainGlobals "_law_wheel" = some (some (.ref f14)))
    (l14 : K.lookup f14 = some ⟨oc14, od14, .func (PySem.W.fnOf "_law_wheel" "_law_wheel" (defArgs s__law_wheel) (defBody s__law_wheel) (defScope s__law_wheel) .none kV14 dc14 pm14 an14 cd14 ct14), sl14⟩)
    (c14 : PySem.W.codeIn K cd14 "_law_wheel" = true)
    (k14 : PySem.W.keepIn K (.ref f14) = true)
    (a15 : PySem.W.nsIn K mainGlobals "_law_time" = some (some (.ref f15)))
    (l15 : K.lookup f15 = some ⟨oc15, od15, .func (PySem.W.fnOf "_law_time" "_law_time" (defArgs s__law_time) (defBody s__law_time) (defScope s__law_time) .none kV15 dc15 pm15 an15 cd15 ct15), sl15⟩)
    (c15 : PySem.W.codeIn K cd15 "_law_time" = true)
    (k15 : PySem.W.keepIn K (.ref f15) = true)
    (a16 : PySem.W.nsIn K mainGlobals "_law_seen" = some (some (.ref f16)))
    (l16 : K.lookup f16 = some ⟨oc16, od16, .func (PySem.W.fnOf "_law_seen" "_law_seen" (defArgs s__law_seen) (defBody s__law_seen) (defScope s__law_seen) .none kV16 dc16 pm16 an16 cd16 ct16), sl16⟩)
    (c16 : PySem.W.codeIn K cd16 "_law_seen" = true)
    (k16 : PySem.W.keepIn K (.ref f16) = true)
    (a17 : PySem.W.nsIn K mainGlobals "_law_due" = some (some (.ref f17)))
    (l17 : K.lookup f17 = some ⟨oc17, od17, .func (PySem.W.fnOf "_law_due" "_law_due" (defArgs s__law_due) (defBody s__law_due) (defScope s__law_due) .none kV17 dc17 pm17 an17 (.ref cL__law_due) ct17), sl17⟩)
    (c17 : PySem.W.codeIn K (.ref cL__law_due) "_law_due" = true)
    (k17 : PySem.W.keepIn K (.ref f17) = true)
    (a18 : PySem.W.nsIn K mainGlobals "law" = some (some (.ref f18)))
    (l18 : K.lookup f18 = some ⟨oc18, od18, .func (PySem.W.fnOf "law" "law" (defArgs s_law) (defBody s_law) (defScope s_law) .none kV18 dc18 pm18 an18 (.ref cL) ct18), sl18⟩)
    (c18 : PySem.W.codeIn K (.ref cL) "law" = true)
    (k18 : PySem.W.keepIn K (.ref f18) = true)
    (g_MOST_WHEEL : PySem.W.nsIn K mainGlobals "MOST_WHEEL" = some (some (.int 1000000000000 t_MOST_WHEEL)))
    (g_MOST_SEEN : PySem.W.nsIn K mainGlobals "MOST_SEEN" = some (some (.int 60 t_MOST_SEEN)))
    (z_ValueError : PySem.W.nsIn K mainGlobals "ValueError" = some none)
    (z_range : PySem.W.nsIn K mainGlobals "range" = some none)
    (z_isinstance : PySem.W.nsIn K mainGlobals "isinstance" = some none)
    (z_str : PySem.W.nsIn K mainGlobals "str" = some none)
    (z_len : PySem.W.nsIn K mainGlobals "len" = some none)
    (z_tuple : PySem.W.nsIn K mainGlobals "tuple" = some none)
    (z_list : PySem.W.nsIn K mainGlobals "list" = some none)
    (z_bool : PySem.W.nsIn K mainGlobals "bool" = some none)
    (z_int : PySem.W.nsIn K mainGlobals "int" = some none)
    (z_sorted : PySem.W.nsIn K mainGlobals "sorted" = some none)
    (z_max : PySem.W.nsIn K mainGlobals "max" = some none)
    (z_set : PySem.W.nsIn K mainGlobals "set" = some none)
    (z_min : PySem.W.nsIn K mainGlobals "min" = some none)
    (eg_BadWheel : PySem.W.nsIn K mainGlobals "BadWheel" = some (some (.ref C_BadWheel)))
    (ex_BadWheel : PySem.W.excIn K C_BadWheel [.type "ValueError", .type "Exception", .type "BaseException", .type "object"] "ValueError.__new__" = true)
    (ek_BadWheel : PySem.W.keepIn K (.ref C_BadWheel) = true)
    (eb_BadWheel : PySem.W.subIn K (.ref C_BadWheel) (.type "BaseException") = some true)
    (et_BadWheel : PySem.W.typeIn K (.ref C_BadWheel) = some (.type "type"))
    (eg_BadRule : PySem.W.nsIn K mainGlobals "BadRule" = some (some (.ref C_BadRule)))
    (ex_BadRule : PySem.W.excIn K C_BadRule [.type "ValueError", .type "Exception", .type "BaseException", .type "object"] "ValueError.__new__" = true)
    (ek_BadRule : PySem.W.keepIn K (.ref C_BadRule) = true)
    (eb_BadRule : PySem.W.subIn K (.ref C_BadRule) (.type "BaseException") = some true)
    (et_BadRule : PySem.W.typeIn K (.ref C_BadRule) = some (.type "type"))
    (eg_BadSeen : PySem.W.nsIn K mainGlobals "BadSeen" = some (some (.ref C_BadSeen)))
    (ex_BadSeen : PySem.W.excIn K C_BadSeen [.type "ValueError", .type "Exception", .type "BaseException", .type "object"] "ValueError.__new__" = true)
    (ek_BadSeen : PySem.W.keepIn K (.ref C_BadSeen) = true)
    (eb_BadSeen : PySem.W.subIn K (.ref C_BadSeen) (.type "BaseException") = some true)
    (et_BadSeen : PySem.W.typeIn K (.ref C_BadSeen) = some (.type "type"))
    (eg_BadGaps : PySem.W.nsIn K mainGlobals "BadGaps" = some (some (.ref C_BadGaps)))
    (ex_BadGaps : PySem.W.excIn K C_BadGaps [.type "ValueError", .type "Exception", .type "BaseException", .type "object"] "ValueError.__new__" = true)
    (ek_BadGaps : PySem.W.keepIn K (.ref C_BadGaps) = true)
    (eb_BadGaps : PySem.W.subIn K (.ref C_BadGaps) (.type "BaseException") = some true)
    (et_BadGaps : PySem.W.typeIn K (.ref C_BadGaps) = some (.type "type"))
    (eg_BadSpan : PySem.W.nsIn K mainGlobals "BadSpan" = some (some (.ref C_BadSpan)))
    (ex_BadSpan : PySem.W.excIn K C_BadSpan [.type "ValueError", .type "Exception", .type "BaseException", .type "object"] "ValueError.__new__" = true)
    (ek_BadSpan : PySem.W.keepIn K (.ref C_BadSpan) = true)
    (eb_BadSpan : PySem.W.subIn K (.ref C_BadSpan) (.type "BaseException") = some true)
    (et_BadSpan : PySem.W.typeIn K (.ref C_BadSpan) = some (.type "type"))
    (eg_BadLong : PySem.W.nsIn K mainGlobals "BadLong" = some (some (.ref C_BadLong)))
    (ex_BadLong : PySem.W.excIn K C_BadLong [.type "ValueError", .type "Exception", .type "BaseException", .type "object"] "ValueError.__new__" = true)
    (ek_BadLong : PySem.W.keepIn K (.ref C_BadLong) = true)
    (eb_BadLong : PySem.W.subIn K (.ref C_BadLong) (.type "BaseException") = some true)
    (et_BadLong : PySem.W.typeIn K (.ref C_BadLong) = some (.type "type"))
    (eg_NoGap : PySem.W.nsIn K mainGlobals "NoGap" = some (some (.ref C_NoGap)))
    (ex_NoGap : PySem.W.excIn K C_NoGap [.type "ValueError", .type "Exception", .type "BaseException", .type "object"] "ValueError.__new__" = true)
    (ek_NoGap : PySem.W.keepIn K (.ref C_NoGap) = true)
    (eb_NoGap : PySem.W.subIn K (.ref C_NoGap) (.type "BaseException") = some true)
    (et_NoGap : PySem.W.typeIn K (.ref C_NoGap) = some (.type "type"))
    (eg_NoSpan : PySem.W.nsIn K mainGlobals "NoSpan" = some (some (.ref C_NoSpan)))
    (ex_NoSpan : PySem.W.excIn K C_NoSpan [.type "ValueError", .type "Exception", .type "BaseException", .type "object"] "ValueError.__new__" = true)
    (ek_NoSpan : PySem.W.keepIn K (.ref C_NoSpan) = true)
    (eb_NoSpan : PySem.W.subIn K (.ref C_NoSpan) (.type "BaseException") = some true)
    (et_NoSpan : PySem.W.typeIn K (.ref C_NoSpan) = some (.type "type"))
    (eg_WrapError : PySem.W.nsIn K mainGlobals "WrapError" = some (some (.ref C_WrapError)))
    (ex_WrapError : PySem.W.excIn K C_WrapError [.type "ValueError", .type "Exception", .type "BaseException", .type "object"] "ValueError.__new__" = true)
    (ek_WrapError : PySem.W.keepIn K (.ref C_WrapError) = true)
    (eb_WrapError : PySem.W.subIn K (.ref C_WrapError) (.type "BaseException") = some true)
    (et_WrapError : PySem.W.typeIn K (.ref C_WrapError) = some (.type "type"))
    (ox_BadWheel : PySem.W.hasDictIn K C_BadWheel = true)
    (ox_BadRule : PySem.W.hasDictIn K C_BadRule = true)
    (ox_BadSeen : PySem.W.hasDictIn K C_BadSeen = true)
    (ox_BadGaps : PySem.W.hasDictIn K C_BadGaps = true)
    (ox_BadSpan : PySem.W.hasDictIn K C_BadSpan = true)
    (ox_BadLong : PySem.W.hasDictIn K C_BadLong = true)
    (ox_NoGap : PySem.W.hasDictIn K C_NoGap = true)
    (ox_NoSpan : PySem.W.hasDictIn K C_NoSpan = true)
    (ox_WrapError : PySem.W.hasDictIn K C_WrapError = true)
    (ohg_BadSpan : PySem.W.findIn K (.ref C_BadSpan) "__getattribute__" = some (some (.builtin "BaseException.__getattribute__")))
    (ohk_BadSpan : PySem.W.findIn K (.ref C_BadSpan) "__getattr__" = some none)
    (oha_BadSpan : PySem.W.findIn K (.ref C_BadSpan) "__class__" = some (some (.builtin "object.__class__")))
    (ohm_BadSpan : PySem.W.mroIn K C_BadSpan (.type "object") = some true)
    (osw_BadSpan : PySem.W.subIn K (.ref C_BadSpan) (.ref C_WrapError) = some true)
    (osv_BadSpan : PySem.W.subIn K (.ref C_BadSpan) (.type "ValueError") = some true)
    (ok0_BadSpan : PySem.W.subIn K (.ref C_BadSpan) (.ref C_BadWheel) = some false)
    (oz0_BadSpan : C_BadSpan ≠ C_BadWheel)
    (ok1_BadSpan : PySem.W.subIn K (.ref C_BadSpan) (.ref C_BadRule) = some false)
    (oz1_BadSpan : C_BadSpan ≠ C_BadRule)
    (ok2_BadSpan : PySem.W.subIn K (.ref C_BadSpan) (.ref C_BadSeen) = some false)
    (oz2_BadSpan : C_BadSpan ≠ C_BadSeen)
    (ok3_BadSpan : PySem.W.subIn K (.ref C_BadSpan) (.ref C_BadGaps) = some false)
    (oz3_BadSpan : C_BadSpan ≠ C_BadGaps)
    (ok4_BadSpan : PySem.W.subIn K (.ref C_BadSpan) (.ref C_BadSpan) = some true)
    (ok5_BadSpan : PySem.W.subIn K (.ref C_BadSpan) (.ref C_BadLong) = some false)
    (oz5_BadSpan : C_BadSpan ≠ C_BadLong)
    (ok6_BadSpan : PySem.W.subIn K (.ref C_BadSpan) (.ref C_NoGap) = some false)
    (oz6_BadSpan : C_BadSpan ≠ C_NoGap)
    (ok7_BadSpan : PySem.W.subIn K (.ref C_BadSpan) (.ref C_NoSpan) = some false)
    (oz7_BadSpan : C_BadSpan ≠ C_NoSpan)
    (ohg_BadSeen : PySem.W.findIn K (.ref C_BadSeen) "__getattribute__" = some (some (.builtin "BaseException.__getattribute__")))
    (ohk_BadSeen : PySem.W.findIn K (.ref C_BadSeen) "__getattr__" = some none)
    (oha_BadSeen : PySem.W.findIn K (.ref C_BadSeen) "__class__" = some (some (.builtin "object.__class__")))
    (ohm_BadSeen : PySem.W.mroIn K C_BadSeen (.type "object") = some true)
    (osw_BadSeen : PySem.W.subIn K (.ref C_BadSeen) (.ref C_WrapError) = some true)
    (osv_BadSeen : PySem.W.subIn K (.ref C_BadSeen) (.type "ValueError") = some true)
    (ok0_BadSeen : PySem.W.subIn K (.ref C_BadSeen) (.ref C_BadWheel) = some false)
    (oz0_BadSeen : C_BadSeen ≠ C_BadWheel)
    (ok1_BadSeen : PySem.W.subIn K (.ref C_BadSeen) (.ref C_BadRule) = some false)
    (oz1_BadSeen : C_BadSeen ≠ C_BadRule)
    (ok2_BadSeen : PySem.W.subIn K (.ref C_BadSeen) (.ref C_BadSeen) = some true)
    (ok3_BadSeen : PySem.W.subIn K (.ref C_BadSeen) (.ref C_BadGaps) = some false)
    (oz3_BadSeen : C_BadSeen ≠ C_BadGaps)
    (ok4_BadSeen : PySem.W.subIn K (.ref C_BadSeen) (.ref C_BadSpan) = some false)
    (oz4_BadSeen : C_BadSeen ≠ C_BadSpan)
    (ok5_BadSeen : PySem.W.subIn K (.ref C_BadSeen) (.ref C_BadLong) = some false)
    (oz5_BadSeen : C_BadSeen ≠ C_BadLong)
    (ok6_BadSeen : PySem.W.subIn K (.ref C_BadSeen) (.ref C_NoGap) = some false)
    (oz6_BadSeen : C_BadSeen ≠ C_NoGap)
    (ok7_BadSeen : PySem.W.subIn K (.ref C_BadSeen) (.ref C_NoSpan) = some false)
    (oz7_BadSeen : C_BadSeen ≠ C_NoSpan)
    (ohg_NoSpan : PySem.W.findIn K (.ref C_NoSpan) "__getattribute__" = some (some (.builtin "BaseException.__getattribute__")))
    (ohk_NoSpan : PySem.W.findIn K (.ref C_NoSpan) "__getattr__" = some none)
    (oha_NoSpan : PySem.W.findIn K (.ref C_NoSpan) "__class__" = some (some (.builtin "object.__class__")))
    (ohm_NoSpan : PySem.W.mroIn K C_NoSpan (.type "object") = some true)
    (osw_NoSpan : PySem.W.subIn K (.ref C_NoSpan) (.ref C_WrapError) = some true)
    (osv_NoSpan : PySem.W.subIn K (.ref C_NoSpan) (.type "ValueError") = some true)
    (ok0_NoSpan : PySem.W.subIn K (.ref C_NoSpan) (.ref C_BadWheel) = some false)
    (oz0_NoSpan : C_NoSpan ≠ C_BadWheel)
    (ok1_NoSpan : PySem.W.subIn K (.ref C_NoSpan) (.ref C_BadRule) = some false)
    (oz1_NoSpan : C_NoSpan ≠ C_BadRule)
    (ok2_NoSpan : PySem.W.subIn K (.ref C_NoSpan) (.ref C_BadSeen) = some false)
    (oz2_NoSpan : C_NoSpan ≠ C_BadSeen)
    (ok3_NoSpan : PySem.W.subIn K (.ref C_NoSpan) (.ref C_BadGaps) = some false)
    (oz3_NoSpan : C_NoSpan ≠ C_BadGaps)
    (ok4_NoSpan : PySem.W.subIn K (.ref C_NoSpan) (.ref C_BadSpan) = some false)
    (oz4_NoSpan : C_NoSpan ≠ C_BadSpan)
    (ok5_NoSpan : PySem.W.subIn K (.ref C_NoSpan) (.ref C_BadLong) = some false)
    (oz5_NoSpan : C_NoSpan ≠ C_BadLong)
    (ok6_NoSpan : PySem.W.subIn K (.ref C_NoSpan) (.ref C_NoGap) = some false)
    (oz6_NoSpan : C_NoSpan ≠ C_NoGap)
    (ok7_NoSpan : PySem.W.subIn K (.ref C_NoSpan) (.ref C_NoSpan) = some true)
    (ohn : PySem.W.specialIn K (.builtin "object.__class__") "__get__" = some (some (.builtin "getset_descriptor.__get__")))
    (oht : PySem.W.takesIn K (.builtin "object.__class__") = some true)
    (lcL__law_due : K.lookup cL__law_due = some ⟨eL__law_due, ddL__law_due, .fields vsL__law_due, slL__law_due⟩)
    (vL__law_due : vsL__law_due[11]? = some (.ref PL__law_due))
    (hdL__law_due : PySem.W.codeHdIn K cL__law_due PL__law_due = true)
    (nPL__law_due : K.lookup PL__law_due = none)
    (tbL__law_due : h.get? PL__law_due = some { cls := .none, data := .fields #[] })
    (lcL : K.lookup cL = some ⟨eL, ddL, .fields vsL, slL⟩)
    (vL : vsL[11]? = some (.ref PL))
    (hdL : PySem.W.codeHdIn K cL PL = true)
    (nPL : K.lookup PL = none)
    (tbL : h.get? PL = some { cls := .none, data := .fields #[] })
    (hPP : PL__law_due ≠ PL) :
    LamX.LawAtS l w K (L2.CX l.prog w) 7 63 "_law_script" mg fa h := by
  have T : Txt K mg ⟨C_BadWheel, C_BadRule, C_BadSeen, C_BadGaps, C_BadSpan, C_BadLong, C_NoGap, C_NoSpan, C_WrapError, 0⟩ := { g_MOST_WHEEL := ⟨_, PySem.W.mg_of X G g_MOST_WHEEL⟩, g_MOST_SEEN := ⟨_, PySem.W.mg_of X G g_MOST_SEEN⟩, ValueError := PySem.W.mg_none_of X G z_ValueError, range := PySem.W.mg_none_of X G z_range, isinstance := PySem.W.mg_none_of X G z_isinstance, str := PySem.W.mg_none_of X G z_str, len := PySem.W.mg_none_of X G z_len, tuple := PySem.W.mg_none_of X G z_tuple, list := PySem.W.mg_none_of X G z_list, bool := PySem.W.mg_none_of X G z_bool, int := PySem.W.mg_none_of X G z_int, sorted := PySem.W.mg_none_of X G z_sorted, max := PySem.W.mg_none_of X G z_max, set := PySem.W.mg_none_of X G z_set, min := PySem.W.mg_none_of X G z_min, x_BadWheel := ⟨PySem.W.mg_of X G eg_BadWheel, ex_BadWheel, ek_BadWheel, eb_BadWheel, et_BadWheel⟩, x_BadRule := ⟨PySem.W.mg_of X G eg_BadRule, ex_BadRule, ek_BadRule, eb_BadRule, et_BadRule⟩, x_BadSeen := ⟨PySem.W.mg_of X G eg_BadSeen, ex_BadSeen, ek_BadSeen, eb_BadSeen, et_BadSeen⟩, x_BadGaps := ⟨PySem.W.mg_of X G eg_BadGaps, ex_BadGaps, ek_BadGaps, eb_BadGaps, et_BadGaps⟩, x_BadSpan := ⟨PySem.W.mg_of X G eg_BadSpan, ex_BadSpan, ek_BadSpan, eb_BadSpan, et_BadSpan⟩, x_BadLong := ⟨PySem.W.mg_of X G eg_BadLong, ex_BadLong, ek_BadLong, eb_BadLong, et_BadLong⟩, x_NoGap := ⟨PySem.W.mg_of X G eg_NoGap, ex_NoGap, ek_NoGap, eb_NoGap, et_NoGap⟩, x_NoSpan := ⟨PySem.W.mg_of X G eg_NoSpan, ex_NoSpan, ek_NoSpan, eb_NoSpan, et_NoSpan⟩, x_WrapError := ⟨PySem.W.mg_of X G eg_WrapError, ex_WrapError, ek_WrapError, eb_WrapError, et_WrapError⟩, q_BadSpan := ⟨⟨ohg_BadSpan, ohk_BadSpan, eb_BadSpan, ox_BadSpan, oha_BadSpan, ohn, oht, ohm_BadSpan⟩, PySem.W.exm_ref eb_WrapError ox_WrapError et_WrapError osw_BadSpan, kit_ve osv_BadSpan, kit_no ox_BadWheel et_BadWheel oz0_BadSpan ok0_BadSpan, kit_no ox_BadRule et_BadRule oz1_BadSpan ok1_BadSpan, kit_no ox_BadSeen et_BadSeen oz2_BadSpan ok2_BadSpan, kit_no ox_BadGaps et_BadGaps oz3_BadSpan ok3_BadSpan, kit_yes ox_BadSpan et_BadSpan ok4_BadSpan, kit_no ox_BadLong et_BadLong oz5_BadSpan ok5_BadSpan, kit_no ox_NoGap et_NoGap oz6_BadSpan ok6_BadSpan, kit_no ox_NoSpan et_NoSpan oz7_BadSpan ok7_BadSpan, by decide⟩, q_BadSeen := ⟨⟨ohg_BadSeen, ohk_BadSeen, eb_BadSeen, ox_BadSeen, oha_BadSeen, ohn, oht, ohm_BadSeen⟩, PySem.W.exm_ref eb_WrapError ox_WrapError et_WrapError osw_BadSeen, kit_ve osv_BadSeen, kit_no ox_BadWheel et_BadWheel oz0_BadSeen ok0_BadSeen, kit_no ox_BadRule et_BadRule oz1_BadSeen ok1_BadSeen, kit_yes ox_BadSeen et_BadSeen ok2_BadSeen, kit_no ox_BadGaps et_BadGaps oz3_BadSeen ok3_BadSeen, kit_no ox_BadSpan et_BadSpan oz4_BadSeen ok4_BadSeen, kit_no ox_BadLong et_BadLong oz5_BadSeen ok5_BadSeen, kit_no ox_NoGap et_NoGap oz6_BadSeen ok6_BadSeen, kit_no ox_NoSpan et_NoSpan oz7_BadSeen ok7_BadSeen, by decide⟩, q_NoSpan := ⟨⟨ohg_NoSpan, ohk_NoSpan, eb_NoSpan, ox_NoSpan, oha_NoSpan, ohn, oht, ohm_NoSpan⟩, PySem.W.exm_ref eb_WrapError ox_WrapError et_WrapError osw_NoSpan, kit_ve osv_NoSpan, kit_no ox_BadWheel et_BadWheel oz0_NoSpan ok0_NoSpan, kit_no ox_BadRule et_BadRule oz1_NoSpan ok1_NoSpan, kit_no ox_BadSeen et_BadSeen oz2_NoSpan ok2_NoSpan, kit_no ox_BadGaps et_BadGaps oz3_NoSpan ok3_NoSpan, kit_no ox_BadSpan et_BadSpan oz4_NoSpan ok4_NoSpan, kit_no ox_BadLong et_BadLong oz5_NoSpan ok5_NoSpan, kit_no ox_NoGap et_NoGap oz6_NoSpan ok6_NoSpan, kit_yes ox_NoSpan et_NoSpan ok7_NoSpan, by decide⟩ }
  have e := hfa.symm.trans (PySem.W.mg_of X G a18)
  cases e
  have mem : ∀ p : Addr × Addr, p ∈ [(cL__law_due, PL__law_due), (cL, PL)] → p = (cL__law_due, PL__law_due) ∨ p = (cL, PL) := fun p hp => by simpa using hp
  refine ⟨PySem.W.fnOf "law" "law" (defArgs s_law) (defBody s_law) (defScope s_law) .none kV18 dc18 pm18 an18 (.ref cL) ct18, [(cL__law_due, PL__law_due), (cL, PL)], sp_lawTs K [PL__law_due, PL], fun p hp => ?_, fun p hp => ?_, fun p hp => ?_, fun s v => .of_eq rfl, fun H a ns h1 _ h2 h3 => ⟨a, ns, rfl, h3, h1, fun P hP => ?_, fun _ => rfl⟩, fun base hK hM hTB => ?_⟩
  · rcases mem p hp with rfl | rfl
    · exact tbL__law_due
    · exact tbL
  · rcases mem p hp with rfl | rfl
    · exact nPL__law_due
    · exact nPL
  · rcases mem p hp with rfl | rfl
    · exact PySem.W.codeHd_of_K X hdL__law_due
    · exact PySem.W.codeHd_of_K X hdL
  · have hP : P = PL__law_due ∨ P = PL := by simpa using hP
    rcases hP with hP | hP
    · rw [hP]; exact h2 (cL__law_due, PL__law_due) (by simp)
    · rw [hP]; exact h2 (cL, PL) (by simp)
  have D_is_wheel : Fn K mg "is_wheel" s_is_wheel := ⟨f0, _, fun_mk (st := s_is_wheel) l0 c0 k0, PySem.W.mg_of X G a0⟩
  have D_need_wheel : Fn K mg "need_wheel" s_need_wheel := ⟨f1, _, fun_mk (st := s_need_wheel) l1 c1 k1, PySem.W.mg_of X G a1⟩
  have D_need_seen : Fn K mg "need_seen" s_need_seen := ⟨f2, _, fun_mk (st := s_need_seen) l2 c2 k2, PySem.W.mg_of X G a2⟩
  have D_since_of : Fn K mg "since_of" s_since_of := ⟨f3, _, fun_mk (st := s_since_of) l3 c3 k3, PySem.W.mg_of X G a3⟩
  have D_order_of : Fn K mg "order_of" s_order_of := ⟨f4, _, fun_mk (st := s_order_of) l4 c4 k4, PySem.W.mg_of X G a4⟩
  have D_need_row : Fn K mg "need_row" s_need_row := ⟨f5, _, fun_mk (st := s_need_row) l5 c5 k5, PySem.W.mg_of X G a5⟩
  have D_arranged : Fn K mg "arranged" s_arranged := ⟨f6, _, fun_mk (st := s_arranged) l6 c6 k6, PySem.W.mg_of X G a6⟩
  have D_goes_round : Fn K mg "goes_round" s_goes_round := ⟨f7, _, fun_mk (st := s_goes_round) l7 c7 k7, PySem.W.mg_of X G a7⟩
  have D_ring : Fn K mg "ring" s_ring := ⟨f8, _, fun_mk (st := s_ring) l8 c8 k8, PySem.W.mg_of X G a8⟩
  have D__law_start : Fn K mg "_law_start" s__law_start := ⟨f9, _, fun_mk (st := s__law_start) l9 c9 k9, PySem.W.mg_of X G a9⟩
  have D__law_drawn : Fn K mg "_law_drawn" s__law_drawn := ⟨f10, _, fun_mk (st := s__law_drawn) l10 c10 k10, PySem.W.mg_of X G a10⟩
  have D__law_same : Fn K mg "_law_same" s__law_same := ⟨f11, _, fun_mk (st := s__law_same) l11 c11 k11, PySem.W.mg_of X G a11⟩
  have D__law_kind : FnL K mg "_law_kind" s__law_kind := ⟨f12, _, _, _, _, _, _, _, _, _, l12, c12, k12, PySem.W.mg_of X G a12⟩
  have D__law_far : Fn K mg "_law_far" s__law_far := ⟨f13, _, fun_mk (st := s__law_far) l13 c13 k13, PySem.W.mg_of X G a13⟩
  have D__law_wheel : Fn K mg "_law_wheel" s__law_wheel := ⟨f14, _, fun_mk (st := s__law_wheel) l14 c14 k14, PySem.W.mg_of X G a14⟩
  have D__law_time : Fn K mg "_law_time" s__law_time := ⟨f15, _, fun_mk (st := s__law_time) l15 c15 k15, PySem.W.mg_of X G a15⟩
  have D__law_seen : Fn K mg "_law_seen" s__law_seen := ⟨f16, _, fun_mk (st := s__law_seen) l16 c16 k16, PySem.W.mg_of X G a16⟩
  have D__law_due : FnC K mg "_law_due" s__law_due cL__law_due := ⟨f17, _, _, _, _, _, _, _, _, l17, c17, k17, PySem.W.mg_of X G a17⟩
  have c_is_wheel := ok_is_wheel (P := l.prog) (w := w) (base := base) T D_is_wheel 
  have c_need_wheel := ok_need_wheel (P := l.prog) (w := w) (base := base) T D_need_wheel c_is_wheel
  have c_need_seen := ok_need_seen (P := l.prog) (w := w) (base := base) T D_need_seen 
  have c_since_of := ok_since_of (P := l.prog) (w := w) (base := base) T D_since_of 
  have c_order_of := ok_order_of (P := l.prog) (w := w) (base := base) T D_order_of c_since_of
  have c_need_row := ok_need_row (P := l.prog) (w := w) (base := base) T D_need_row c_need_seen
  have c_arranged := ok_arranged (P := l.prog) (w := w) (base := base) T D_arranged c_need_wheel c_need_row c_since_of
  have c_goes_round := ok_goes_round (P := l.prog) (w := w) (base := base) T D_goes_round c_order_of
  have c_ring := ok_ring (P := l.prog) (w := w) (base := base) T D_ring c_need_wheel c_need_row c_goes_round
  have c__law_start := ok_start (P := l.prog) (w := w) (base := base) T D__law_start 
  have c__law_drawn := ok_drawn (P := l.prog) (w := w) (base := base) T D__law_drawn 
  have c__law_same := ok_same1 (P := l.prog) (w := w) (base := base) T D__law_same 
  have c__law_far := ok__law_far (P := l.prog) (w := w) (base := base) T D__law_far c__law_drawn
  have c__law_wheel := ok_wheel (P := l.prog) (w := w) (base := base) T D__law_wheel c__law_drawn
  have c__law_time := ok__law_time (P := l.prog) (w := w) (base := base) T D__law_time c__law_drawn
  have c__law_seen := ok__law_seen (P := l.prog) (w := w) (base := base) T D__law_seen c__law_time c__law_drawn
  have c__law_due := ok__law_due (P := l.prog) (w := w) (base := base) hPP T D__law_due (hTB (cL__law_due, PL__law_due) (by simp)) D__law_kind 
  exact ok_law hPP T l18 c18 (hTB (cL, PL) (by simp)) D__law_kind c__law_start c__law_wheel c__law_seen c__law_far c__law_drawn c_arranged c__law_same c_ring c__law_due
end
end My
open PySem PySem.W PyProof.Rows
set_option maxRecDepth 100000 in
set_option maxHeartbeats 0 in
theorem PySem.Challenge.cw_wraptime_k08_orders_within_a_span_holds : PySem.Challenge.rw_wraptime_k08_orders_within_a_span.Holds := by
  w_on; o_law; k_head; (case hw => w_witness2)
  k_fill
  refine LamX.walk_ofTs (n := 63) (k := 7) (x := "_law_script") (CX := fun w => L2.CX (PySem.Challenge.rw_wraptime_k08_orders_within_a_span).prog w) rfl (by decide) rfl (by exact ⟨rfl, by decide, by decide⟩) (fun w h Y => PySem.W.km_in_of Y) ?F (fun _ _ _ _ _ h => by obtain ⟨_, _, _, _, _, _, _, _, _, _, _, _, z⟩ := h; exact z)
  case F =>
    intro w mg fa h Y KX G hmg
    refine' My.all_mk KX G hmg ?a0 ?l0 ?c0 ?k0 ?a1 ?l1 ?c1 ?k1 ?a2 ?l2 ?c2 ?k2 ?a3 ?l3 ?c3 ?k3 ?a4 ?l4 ?c4 ?k4 ?a5 ?l5 ?c5 ?k5 ?a6 ?l6 ?c6 ?k6 ?a7 ?l7 ?c7 ?k7 ?a8 ?l8 ?c8 ?k8 ?a9 ?l9 ?c9 ?k9 ?a10 ?l10 ?c10 ?k10 ?a11 ?l11 ?c11 ?k11 ?a12 ?l12 ?c12 ?k12 ?a13 ?l13 ?c13 ?k13 ?a14 ?l14 ?c14 ?k14 ?a15 ?l15 ?c15 ?k15 ?a16 ?l16 ?c16 ?k16 ?a17 ?l17 ?c17 ?k17 ?a18 ?l18 ?c18 ?k18 ?g_MOST_WHEEL ?g_MOST_SEEN ?z_ValueError ?z_range ?z_isinstance ?z_str ?z_len ?z_tuple ?z_list ?z_bool ?z_int ?z_sorted ?z_max ?z_set ?z_min ?eg_BadWheel ?ex_BadWheel ?ek_BadWheel ?eb_BadWheel ?et_BadWheel ?eg_BadRule ?ex_BadRule ?ek_BadRule ?eb_BadRule ?et_BadRule ?eg_BadSeen ?ex_BadSeen ?ek_BadSeen ?eb_BadSeen ?et_BadSeen ?eg_BadGaps ?ex_BadGaps ?ek_BadGaps ?eb_BadGaps ?et_BadGaps ?eg_BadSpan ?ex_BadSpan ?ek_BadSpan ?eb_BadSpan ?et_BadSpan ?eg_BadLong ?ex_BadLong ?ek_BadLong ?eb_BadLong ?et_BadLong ?eg_NoGap ?ex_NoGap ?ek_NoGap ?eb_NoGap ?et_NoGap ?eg_NoSpan ?ex_NoSpan ?ek_NoSpan ?eb_NoSpan ?et_NoSpan ?eg_WrapError ?ex_WrapError ?ek_WrapError ?eb_WrapError ?et_WrapError ?ox_BadWheel ?ox_BadRule ?ox_BadSeen ?ox_BadGaps ?ox_BadSpan ?ox_BadLong ?ox_NoGap ?ox_NoSpan ?ox_WrapError ?ohg_BadSpan ?ohk_BadSpan ?oha_BadSpan ?ohm_BadSpan ?osw_BadSpan ?osv_BadSpan ?ok0_BadSpan ?oz0_BadSpan ?ok1_BadSpan ?oz1_BadSpan ?ok2_BadSpan ?oz2_BadSpan ?ok3_BadSpan ?oz3_BadSpan ?ok4_BadSpan ?ok5_BadSpan ?oz5_BadSpan ?ok6_BadSpan ?oz6_BadSpan ?ok7_BadSpan ?oz7_BadSpan ?ohg_BadSeen ?ohk_BadSeen ?oha_BadSeen ?ohm_BadSeen ?osw_BadSeen ?osv_BadSeen ?ok0_BadSeen ?oz0_BadSeen ?ok1_BadSeen ?oz1_BadSeen ?ok2_BadSeen ?ok3_BadSeen ?oz3_BadSeen ?ok4_BadSeen ?oz4_BadSeen ?ok5_BadSeen ?oz5_BadSeen ?ok6_BadSeen ?oz6_BadSeen ?ok7_BadSeen ?oz7_BadSeen ?ohg_NoSpan ?ohk_NoSpan ?oha_NoSpan ?ohm_NoSpan ?osw_NoSpan ?osv_NoSpan ?ok0_NoSpan ?oz0_NoSpan ?ok1_NoSpan ?oz1_NoSpan ?ok2_NoSpan ?oz2_NoSpan ?ok3_NoSpan ?oz3_NoSpan ?ok4_NoSpan ?oz4_NoSpan ?ok5_NoSpan ?oz5_NoSpan ?ok6_NoSpan ?oz6_NoSpan ?ok7_NoSpan ?ohn ?oht ?lcL__law_due ?vL__law_due ?hdL__law_due ?nPL__law_due ?tbL__law_due ?lcL ?vL ?hdL ?nPL ?tbL ?hPP
    (case a0 => k_is)
    (case l0 => k_is)
    (case c0 => k_is)
    (case k0 => k_is)
    (case a1 => k_is)
    (case l1 => k_is)
    (case c1 => k_is)
    (case k1 => k_is)
    (case a2 => k_is)
    (case l2 => k_is)
    (case c2 => k_is)
    (case k2 => k_is)
    (case a3 => k_is)
    (case l3 => k_is)
    (case c3 => k_is)
    (case k3 => k_is)
    (case a4 => k_is)
    (case l4 => k_is)
    (case c4 => k_is)
    (case k4 => k_is)
    (case a5 => k_is)
    (case l5 => k_is)
    (case c5 => k_is)
    (case k5 => k_is)
    (case a6 => k_is)
    (case l6 => k_is)
    (case c6 => k_is)
    (case k6 => k_is)
    (case a7 => k_is)
    (case l7 => k_is)
    (case c7 => k_is)
    (case k7 => k_is)
    (case a8 => k_is)
    (case l8 => k_is)
    (case c8 => k_is)
    (case k8 => k_is)
    (case a9 => k_is)
    (case l9 => k_is)
    (case c9 => k_is)
    (case k9 => k_is)
    (case a10 => k_is)
    (case l10 => k_is)
    (case c10 => k_is)
    (case k10 => k_is)
    (case a11 => k_is)
    (case l11 => k_is)
    (case c11 => k_is)
    (case k11 => k_is)
    (case a12 => k_is)
    (case l12 => k_is)
    (case c12 => k_is)
    (case k12 => k_is)
    (case a13 => k_is)
    (case l13 => k_is)
    (case c13 => k_is)
    (case k13 => k_is)
    (case a14 => k_is)
    (case l14 => k_is)
    (case c14 => k_is)
    (case k14 => k_is)
    (case a15 => k_is)
    (case l15 => k_is)
    (case c15 => k_is)
    (case k15 => k_is)
    (case a16 => k_is)
    (case l16 => k_is)
    (case c16 => k_is)
    (case k16 => k_is)
    (case a17 => k_is)
    (case l17 => k_is)
    (case c17 => k_is)
    (case k17 => k_is)
    (case a18 => k_is)
    (case l18 => k_is)
    (case c18 => k_is)
    (case k18 => k_is)
    (case g_MOST_WHEEL => k_is)
    (case g_MOST_SEEN => k_is)
    (case z_ValueError => k_is)
    (case z_range => k_is)
    (case z_isinstance => k_is)
    (case z_str => k_is)
    (case z_len => k_is)
    (case z_tuple => k_is)
    (case z_list => k_is)
    (case z_bool => k_is)
    (case z_int => k_is)
    (case z_sorted => k_is)
    (case z_max => k_is)
    (case z_set => k_is)
    (case z_min => k_is)
    (case eg_BadWheel => k_is)
    (case ex_BadWheel => k_exc)
    (case ek_BadWheel => k_is)
    (case eb_BadWheel => k_is)
    (case et_BadWheel => k_is)
    (case eg_BadRule => k_is)
    (case ex_BadRule => k_exc)
    (case ek_BadRule => k_is)
    (case eb_BadRule => k_is)
    (case et_BadRule => k_is)
    (case eg_BadSeen => k_is)
    (case ex_BadSeen => k_exc)
    (case ek_BadSeen => k_is)
    (case eb_BadSeen => k_is)
    (case et_BadSeen => k_is)
    (case eg_BadGaps => k_is)
    (case ex_BadGaps => k_exc)
    (case ek_BadGaps => k_is)
    (case eb_BadGaps => k_is)
    (case et_BadGaps => k_is)
    (case eg_BadSpan => k_is)
    (case ex_BadSpan => k_exc)
    (case ek_BadSpan => k_is)
    (case eb_BadSpan => k_is)
    (case et_BadSpan => k_is)
    (case eg_BadLong => k_is)
    (case ex_BadLong => k_exc)
    (case ek_BadLong => k_is)
    (case eb_BadLong => k_is)
    (case et_BadLong => k_is)
    (case eg_NoGap => k_is)
    (case ex_NoGap => k_exc)
    (case ek_NoGap => k_is)
    (case eb_NoGap => k_is)
    (case et_NoGap => k_is)
    (case eg_NoSpan => k_is)
    (case ex_NoSpan => k_exc)
    (case ek_NoSpan => k_is)
    (case eb_NoSpan => k_is)
    (case et_NoSpan => k_is)
    (case eg_WrapError => k_is)
    (case ex_WrapError => k_exc)
    (case ek_WrapError => k_is)
    (case eb_WrapError => k_is)
    (case et_WrapError => k_is)
    (case ox_BadWheel => k_is)
    (case ox_BadRule => k_is)
    (case ox_BadSeen => k_is)
    (case ox_BadGaps => k_is)
    (case ox_BadSpan => k_is)
    (case ox_BadLong => k_is)
    (case ox_NoGap => k_is)
    (case ox_NoSpan => k_is)
    (case ox_WrapError => k_is)
    (case ohg_BadSpan => k_is)
    (case ohk_BadSpan => k_is)
    (case oha_BadSpan => k_is)
    (case ohm_BadSpan => k_is)
    (case osw_BadSpan => k_is)
    (case osv_BadSpan => k_is)
    (case ok0_BadSpan => k_is)
    (case oz0_BadSpan => decide)
    (case ok1_BadSpan => k_is)
    (case oz1_BadSpan => decide)
    (case ok2_BadSpan => k_is)
    (case oz2_BadSpan => decide)
    (case ok3_BadSpan => k_is)
    (case oz3_BadSpan => decide)
    (case ok4_BadSpan => k_is)
    (case ok5_BadSpan => k_is)
    (case oz5_BadSpan => decide)
    (case ok6_BadSpan => k_is)
    (case oz6_BadSpan => decide)
    (case ok7_BadSpan => k_is)
    (case oz7_BadSpan => decide)
    (case ohg_BadSeen => k_is)
    (case ohk_BadSeen => k_is)
    (case oha_BadSeen => k_is)
    (case ohm_BadSeen => k_is)
    (case osw_BadSeen => k_is)
    (case osv_BadSeen => k_is)
    (case ok0_BadSeen => k_is)
    (case oz0_BadSeen => decide)
    (case ok1_BadSeen => k_is)
    (case oz1_BadSeen => decide)
    (case ok2_BadSeen => k_is)
    (case ok3_BadSeen => k_is)
    (case oz3_BadSeen => decide)
    (case ok4_BadSeen => k_is)
    (case oz4_BadSeen => decide)
    (case ok5_BadSeen => k_is)
    (case oz5_BadSeen => decide)
    (case ok6_BadSeen => k_is)
    (case oz6_BadSeen => decide)
    (case ok7_BadSeen => k_is)
    (case oz7_BadSeen => decide)
    (case ohg_NoSpan => k_is)
    (case ohk_NoSpan => k_is)
    (case oha_NoSpan => k_is)
    (case ohm_NoSpan => k_is)
    (case osw_NoSpan => k_is)
    (case osv_NoSpan => k_is)
    (case ok0_NoSpan => k_is)
    (case oz0_NoSpan => decide)
    (case ok1_NoSpan => k_is)
    (case oz1_NoSpan => decide)
    (case ok2_NoSpan => k_is)
    (case oz2_NoSpan => decide)
    (case ok3_NoSpan => k_is)
    (case oz3_NoSpan => decide)
    (case ok4_NoSpan => k_is)
    (case oz4_NoSpan => decide)
    (case ok5_NoSpan => k_is)
    (case oz5_NoSpan => decide)
    (case ok6_NoSpan => k_is)
    (case oz6_NoSpan => decide)
    (case ok7_NoSpan => k_is)
    (case ohn => k_is)
    (case oht => k_is)
    (case lcL__law_due => k_is)
    (case vL__law_due => rfl)
    (case hdL__law_due => kernel_rfl)
    (case nPL__law_due => kernel_rfl)
    (case tbL__law_due => exact PySem.W.km_tabs_of Y _ (by decide))
    (case lcL => k_is)
    (case vL => rfl)
    (case hdL => kernel_rfl)
    (case nPL => kernel_rfl)
    (case tbL => exact PySem.W.km_tabs_of Y _ (by decide))
    (case hPP => decide)

