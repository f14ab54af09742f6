import PyProof.Rows.All
import Wide.All
import OpenK.AllK
import Wide.FinOn
import HandS.ForMost
import HandS.Exc
import HandS.TryOnly
import HandS.ExcOwn
import HandS.WordsExc
import HandS.Lambda
import HandS.EndTab
import HandS.Wide
import HandS.IsInst
import HandS.ExcIs
import HandS.Defaults
import HandS.SortInts
import HandS.SortKw
import HandS.Strs
import PySem.Challenge.RW_wraptime_k12_whole_never_missed
set_option Elab.async false
set_option linter.all false
set_option maxRecDepth 100000
set_option maxHeartbeats 4000000
set_option Elab.async false
set_option linter.all false
set_option maxRecDepth 100000
set_option maxHeartbeats 4000000
namespace My
open PySem PySem.Spec PyProof.Rows L2
open LamX (Tabs TabS CodeO ExtN)
/-! ### what is known of a def -/
structure Knows (P : Program) (w : World) (K : PySem.W.Frag) (mg : Str → Option Value) (base : Heap) (k : Nat) (x : Str) (ps : List Str) (sp : Sp) : Prop where
  ex : ∃ (f : Addr) (fd : FuncData), FnOk P w K mg base (L2.CX P w) k f fd ps sp ∧ mg x = some (.ref f) ∧ PySem.W.keepIn K (.ref f) = true ∧ Binds K fd ps []
structure DefAt (K : PySem.W.Frag) (mg : Str → Option Value) (x : Str) (st : Stmt) (f : Addr) (fd : FuncData) : Prop where
  fn : Fun K x x st f fd
  g : mg x = some (.ref f)
structure ExcAt (K : PySem.W.Frag) (mg : Str → Option Value) (x : Str) (C : Addr) : Prop where
  g : mg x = some (.ref C)
  x : PySem.W.excIn K C [.type "ValueError", .type "Exception", .type "BaseException", .type "object"] "ValueError.__new__" = true
  k : PySem.W.keepIn K (.ref C) = true
  b : PySem.W.subIn K (.ref C) (.type "BaseException") = some true
  t : PySem.W.typeIn K (.ref C) = some (.type "type")
theorem pe_callN {X : Cx} {k : Nat} {x : Str} {ps : List Str} {sp : Sp} {E : XK} {p pos : Pos} {e : Expr} {es : List Expr} {t : TA} (c : Knows X.prog X.w X.K X.mg X.base k x ps sp) (hr : Room k X.A) (hx : Passes (L2.CX X.prog X.w) X E)
    (ha : PA X (e :: es) t) (hg : Gl X x := by rfl) (hdb : (x == ("__debug__" : Str)) = false := by decide) (he : starEach (e :: es) X.env = (false, eval e X.env) :: starEach es X.env := by rfl) (hpl : (backTo pos (starEach es X.env)).any (·.1) = false := by rfl) :
    PE X (.Call (.Name x p) (e :: es) [] pos) (tCall sp [] E t) := by
  obtain ⟨f, fd, F, hm, hk, hb⟩ := c.ex
  exact pe_call F hr hg hm hk hb .nil hx ha hdb he hpl
section
variable {P : Program} {w : World} {K : PySem.W.Frag} {mg : Str → Option Value} {base : Heap} {N : List Str} {qual : Str} {scope : Scope} {f : Addr} {cd : Value} {A : Around} {outer : List Env} {s : Shared} {H : Hp} {E : XK}
theorem takesD : Takes (cxOf (L2.CX P w) P w K mg base N qual scope f cd A outer s H E) (fun cls d _ H => E cls d H) := takes_of rfl rfl rfl rfl
theorem passD : Passes (L2.CX P w) (cxOf (L2.CX P w) P w K mg base N qual scope f cd A outer s H E) E := passes_call takesD (fun _ _ _ _ h => h)
theorem passO : PassesOwn (model P w) (A.deeper (envOfC qual scope s.heap.objs.size f cd)) (envOfC qual scope s.heap.objs.size f cd) (cxOf (L2.CX P w) P w K mg base N qual scope f cd A outer s H E).xe := PassesOwn.leaving
theorem ps_raiseN {x m : Str} {C : Addr} {j : Nat} {p p2 pos pos2 : Pos} (e : ExcAt K mg x C) (hg : Gl (cxOf (L2.CX P w) P w K mg base N qual scope f cd A outer s H E) x := by rfl) (hdb : (x == ("__debug__" : Str)) = false := by decide) :
    PS (cxOf (L2.CX P w) P w K mg base N qual scope f cd A outer s H E) (.Raise (some (.Call (.Name x p) [.Constant (.str m) j p2] [] pos)) none pos2) (fun _ _ H' => E (.ref C) none H') :=
  ps_raise rfl takesD (pmk_own PySem.F.excBase_ValueError e.x e.g e.k (raises_own e.b e.t) hg hdb)
end
/-! ### rules by name -/
def rLenN (K : PySem.W.Frag) : List V → Hp → VK → Prop := fun xs H Q => ∃ (x : V) (n : Nat), xs = [x] ∧ LenV K x H n ∧ Q (.int n) H
theorem call_lenN {X : Cx} : CallR X (.builtin "len") (rLenN X.K) := call_len
def rMin2 : List V → Hp → VK → Prop := fun xs H Q => ∃ i j : Int, xs = [.int i, .int j] ∧ Q (.int (if j < i then j else i)) H
def rMax2 : List V → Hp → VK → Prop := fun xs H Q => ∃ i j : Int, xs = [.int i, .int j] ∧ Q (.int (if j > i then j else i)) H
theorem call_min2N {X : Cx} (hc : X.calm = true) : CallR X (.builtin "min") rMin2 := call_min2 hc
theorem call_max2N {X : Cx} (hc : X.calm = true) : CallR X (.builtin "max") rMax2 := call_max2 hc
def rAbs : List V → Hp → VK → Prop := fun xs H Q => ∃ i : Int, xs = [.int i] ∧ Q (.int (if i < 0 then -i else i)) H
theorem call_absN {X : Cx} : CallR X (.builtin "abs") rAbs := call_abs
def rInt1 : List V → Hp → VK → Prop := fun xs H Q => (∃ i : Int, xs = [.int i] ∧ Q (.int i) H) ∨ ∃ k : Bool, xs = [.bl k] ∧ Q (.int (if k then 1 else 0)) H
theorem call_intN {X : Cx} : CallR X (.type "int") rInt1 := call_int1
def rListOf (K : PySem.W.Frag) : List V → Hp → VK → Prop := fun xs H Q => ∃ (p : Addr) (ys : List V), xs = [.ref p] ∧ (SqL K H p ys ∨ SqT K H p ys) ∧ ∀ l, H l = none → Q (.ref l) (upd H l (.lst ys))
theorem call_listN {X : Cx} : CallR X (.type "list") (rListOf X.K) := call_list_of
def rIsN : R2 := fun x y H Q => y = .non ∧ Q (.bl (decide (x = .non))) H
def rNotN : R2 := fun x y H Q => y = .non ∧ Q (.bl (!decide (x = .non))) H
theorem op_isNN {X : Cx} : OpR X (compareOp .Is) rIsN := op_isN
theorem op_notNN {X : Cx} : OpR X (compareOp .IsNot) rNotN := op_notN
/-! ### a reading, step by step -/
section
variable {σ : L2.St} {H : Hp} {i : Nat} {v : V} {ta tb tc : TE} {t u : TT} {r r' : R2} {Q : VK} {QB : Bool → Hp → Prop} {QA : List V → Hp → Prop} {D : Ends} {g : TG} {a b : Int} {te : TE} {tl : TA} {s1 s2 : TS}
theorem g_var (h : σ[i]? = some (some v)) (q : Q v H) : tVar i σ H Q := ⟨v, h, q⟩
theorem g_var0 {r : L2.St} (q : Q v H) : tVar 0 (some v :: r) H Q := ⟨v, rfl, q⟩
theorem g_var1 {x0 : Option V} {r : L2.St} (q : Q v H) : tVar 1 (x0 :: some v :: r) H Q := ⟨v, rfl, q⟩
theorem g_var2 {x0 x1 : Option V} {r : L2.St} (q : Q v H) : tVar 2 (x0 :: x1 :: some v :: r) H Q := ⟨v, rfl, q⟩
theorem g_var3 {x0 x1 x2 : Option V} {r : L2.St} (q : Q v H) : tVar 3 (x0 :: x1 :: x2 :: some v :: r) H Q := ⟨v, rfl, q⟩
theorem g_var4 {x0 x1 x2 x3 : Option V} {r : L2.St} (q : Q v H) : tVar 4 (x0 :: x1 :: x2 :: x3 :: some v :: r) H Q := ⟨v, rfl, q⟩
theorem g_var5 {x0 x1 x2 x3 x4 : Option V} {r : L2.St} (q : Q v H) : tVar 5 (x0 :: x1 :: x2 :: x3 :: x4 :: some v :: r) H Q := ⟨v, rfl, q⟩
theorem g_var6 {x0 x1 x2 x3 x4 x5 : Option V} {r : L2.St} (q : Q v H) : tVar 6 (x0 :: x1 :: x2 :: x3 :: x4 :: x5 :: some v :: r) H Q := ⟨v, rfl, q⟩
theorem g_var7 {x0 x1 x2 x3 x4 x5 x6 : Option V} {r : L2.St} (q : Q v H) : tVar 7 (x0 :: x1 :: x2 :: x3 :: x4 :: x5 :: x6 :: some v :: r) H Q := ⟨v, rfl, q⟩
theorem g_var8 {x0 x1 x2 x3 x4 x5 x6 x7 : Option V} {r : L2.St} (q : Q v H) : tVar 8 (x0 :: x1 :: x2 :: x3 :: x4 :: x5 :: x6 :: x7 :: some v :: r) H Q := ⟨v, rfl, q⟩
theorem g_var9 {x0 x1 x2 x3 x4 x5 x6 x7 x8 : Option V} {r : L2.St} (q : Q v H) : tVar 9 (x0 :: x1 :: x2 :: x3 :: x4 :: x5 :: x6 :: x7 :: x8 :: some v :: r) H Q := ⟨v, rfl, q⟩
theorem g_var10 {x0 x1 x2 x3 x4 x5 x6 x7 x8 x9 : Option V} {r : L2.St} (q : Q v H) : tVar 10 (x0 :: x1 :: x2 :: x3 :: x4 :: x5 :: x6 :: x7 :: x8 :: x9 :: some v :: r) H Q := ⟨v, rfl, q⟩
theorem g_var11 {x0 x1 x2 x3 x4 x5 x6 x7 x8 x9 x10 : Option V} {r : L2.St} (q : Q v H) : tVar 11 (x0 :: x1 :: x2 :: x3 :: x4 :: x5 :: x6 :: x7 :: x8 :: x9 :: x10 :: some v :: r) H Q := ⟨v, rfl, q⟩
theorem g_var12 {x0 x1 x2 x3 x4 x5 x6 x7 x8 x9 x10 x11 : Option V} {r : L2.St} (q : Q v H) : tVar 12 (x0 :: x1 :: x2 :: x3 :: x4 :: x5 :: x6 :: x7 :: x8 :: x9 :: x10 :: x11 :: some v :: r) H Q := ⟨v, rfl, q⟩
theorem g_var13 {x0 x1 x2 x3 x4 x5 x6 x7 x8 x9 x10 x11 x12 : Option V} {r : L2.St} (q : Q v H) : tVar 13 (x0 :: x1 :: x2 :: x3 :: x4 :: x5 :: x6 :: x7 :: x8 :: x9 :: x10 :: x11 :: x12 :: some v :: r) H Q := ⟨v, rfl, q⟩
theorem g_var14 {x0 x1 x2 x3 x4 x5 x6 x7 x8 x9 x10 x11 x12 x13 : Option V} {r : L2.St} (q : Q v H) : tVar 14 (x0 :: x1 :: x2 :: x3 :: x4 :: x5 :: x6 :: x7 :: x8 :: x9 :: x10 :: x11 :: x12 :: x13 :: some v :: r) H Q := ⟨v, rfl, q⟩
theorem g_var15 {x0 x1 x2 x3 x4 x5 x6 x7 x8 x9 x10 x11 x12 x13 x14 : Option V} {r : L2.St} (q : Q v H) : tVar 15 (x0 :: x1 :: x2 :: x3 :: x4 :: x5 :: x6 :: x7 :: x8 :: x9 :: x10 :: x11 :: x12 :: x13 :: x14 :: some v :: r) H Q := ⟨v, rfl, q⟩
theorem g_var16 {x0 x1 x2 x3 x4 x5 x6 x7 x8 x9 x10 x11 x12 x13 x14 x15 : Option V} {r : L2.St} (q : Q v H) : tVar 16 (x0 :: x1 :: x2 :: x3 :: x4 :: x5 :: x6 :: x7 :: x8 :: x9 :: x10 :: x11 :: x12 :: x13 :: x14 :: x15 :: some v :: r) H Q := ⟨v, rfl, q⟩
theorem g_var17 {x0 x1 x2 x3 x4 x5 x6 x7 x8 x9 x10 x11 x12 x13 x14 x15 x16 : Option V} {r : L2.St} (q : Q v H) : tVar 17 (x0 :: x1 :: x2 :: x3 :: x4 :: x5 :: x6 :: x7 :: x8 :: x9 :: x10 :: x11 :: x12 :: x13 :: x14 :: x15 :: x16 :: some v :: r) H Q := ⟨v, rfl, q⟩
theorem g_var18 {x0 x1 x2 x3 x4 x5 x6 x7 x8 x9 x10 x11 x12 x13 x14 x15 x16 x17 : Option V} {r : L2.St} (q : Q v H) : tVar 18 (x0 :: x1 :: x2 :: x3 :: x4 :: x5 :: x6 :: x7 :: x8 :: x9 :: x10 :: x11 :: x12 :: x13 :: x14 :: x15 :: x16 :: x17 :: some v :: r) H Q := ⟨v, rfl, q⟩
theorem g_var19 {x0 x1 x2 x3 x4 x5 x6 x7 x8 x9 x10 x11 x12 x13 x14 x15 x16 x17 x18 : Option V} {r : L2.St} (q : Q v H) : tVar 19 (x0 :: x1 :: x2 :: x3 :: x4 :: x5 :: x6 :: x7 :: x8 :: x9 :: x10 :: x11 :: x12 :: x13 :: x14 :: x15 :: x16 :: x17 :: x18 :: some v :: r) H Q := ⟨v, rfl, q⟩
theorem g_var20 {x0 x1 x2 x3 x4 x5 x6 x7 x8 x9 x10 x11 x12 x13 x14 x15 x16 x17 x18 x19 : Option V} {r : L2.St} (q : Q v H) : tVar 20 (x0 :: x1 :: x2 :: x3 :: x4 :: x5 :: x6 :: x7 :: x8 :: x9 :: x10 :: x11 :: x12 :: x13 :: x14 :: x15 :: x16 :: x17 :: x18 :: x19 :: some v :: r) H Q := ⟨v, rfl, q⟩
theorem g_var21 {x0 x1 x2 x3 x4 x5 x6 x7 x8 x9 x10 x11 x12 x13 x14 x15 x16 x17 x18 x19 x20 : Option V} {r : L2.St} (q : Q v H) : tVar 21 (x0 :: x1 :: x2 :: x3 :: x4 :: x5 :: x6 :: x7 :: x8 :: x9 :: x10 :: x11 :: x12 :: x13 :: x14 :: x15 :: x16 :: x17 :: x18 :: x19 :: x20 :: some v :: r) H Q := ⟨v, rfl, q⟩
theorem g_var22 {x0 x1 x2 x3 x4 x5 x6 x7 x8 x9 x10 x11 x12 x13 x14 x15 x16 x17 x18 x19 x20 x21 : Option V} {r : L2.St} (q : Q v H) : tVar 22 (x0 :: x1 :: x2 :: x3 :: x4 :: x5 :: x6 :: x7 :: x8 :: x9 :: x10 :: x11 :: x12 :: x13 :: x14 :: x15 :: x16 :: x17 :: x18 :: x19 :: x20 :: x21 :: some v :: r) H Q := ⟨v, rfl, q⟩
theorem g_var23 {x0 x1 x2 x3 x4 x5 x6 x7 x8 x9 x10 x11 x12 x13 x14 x15 x16 x17 x18 x19 x20 x21 x22 : Option V} {r : L2.St} (q : Q v H) : tVar 23 (x0 :: x1 :: x2 :: x3 :: x4 :: x5 :: x6 :: x7 :: x8 :: x9 :: x10 :: x11 :: x12 :: x13 :: x14 :: x15 :: x16 :: x17 :: x18 :: x19 :: x20 :: x21 :: x22 :: some v :: r) H Q := ⟨v, rfl, q⟩
theorem g_var24 {x0 x1 x2 x3 x4 x5 x6 x7 x8 x9 x10 x11 x12 x13 x14 x15 x16 x17 x18 x19 x20 x21 x22 x23 : Option V} {r : L2.St} (q : Q v H) : tVar 24 (x0 :: x1 :: x2 :: x3 :: x4 :: x5 :: x6 :: x7 :: x8 :: x9 :: x10 :: x11 :: x12 :: x13 :: x14 :: x15 :: x16 :: x17 :: x18 :: x19 :: x20 :: x21 :: x22 :: x23 :: some v :: r) H Q := ⟨v, rfl, q⟩
theorem g_var25 {x0 x1 x2 x3 x4 x5 x6 x7 x8 x9 x10 x11 x12 x13 x14 x15 x16 x17 x18 x19 x20 x21 x22 x23 x24 : Option V} {r : L2.St} (q : Q v H) : tVar 25 (x0 :: x1 :: x2 :: x3 :: x4 :: x5 :: x6 :: x7 :: x8 :: x9 :: x10 :: x11 :: x12 :: x13 :: x14 :: x15 :: x16 :: x17 :: x18 :: x19 :: x20 :: x21 :: x22 :: x23 :: x24 :: some v :: r) H Q := ⟨v, rfl, q⟩
theorem g_c (q : Q v H) : tC v σ H Q := q
theorem g_op (q : ta σ H fun x H1 => tb σ H1 fun y H2 => r x y H2 Q) : tOp r ta tb σ H Q := q
theorem g_un {r1 : V → Hp → VK → Prop} (q : ta σ H fun x H1 => r1 x H1 Q) : tUn r1 ta σ H Q := q
theorem g_rI0 {k : Int → Int → V} (q : Q (k a b) H) : rI0 k (.int a) (.int b) H Q := ⟨a, b, rfl, rfl, q⟩
theorem g_rU {k : Int → V} (q : Q (k a) H) : rU k (.int a) H Q := ⟨a, rfl, q⟩
theorem g_rI {C : Int → Int → Prop} {k : Int → Int → V} (h : C a b) (q : Q (k a b) H) : rI C k (.int a) (.int b) H Q := ⟨a, b, rfl, rfl, h, q⟩
theorem g_eq {x y : V} (h : scal x y = true) (q : Q (.bl (decide (x = y))) H) : rEq x y H Q := ⟨h, q⟩
theorem g_ne {x y : V} (h : scal x y = true) (q : Q (.bl (!decide (x = y))) H) : rNe x y H Q := ⟨h, q⟩
theorem g_isN {x : V} (q : Q (.bl (decide (x = .non))) H) : rIsN x .non H Q := ⟨rfl, q⟩
theorem g_notN {x : V} (q : Q (.bl (!decide (x = .non))) H) : rNotN x .non H Q := ⟨rfl, q⟩
theorem g_test (q : ta σ H fun x H' => ∃ k, x = .bl k ∧ QB k H') : tTest ta σ H QB := q
theorem g_tB (q : ta σ H fun x H' => ∃ k, x = .bl k ∧ QB k H') : tB ta σ H QB := q
theorem g_bl {c : Bool} (q : QB c H) : ∃ k, V.bl c = .bl k ∧ QB k H := ⟨c, rfl, q⟩
theorem g_not (q : t σ H fun c H1 => QB (!c) H1) : tNot t σ H QB := q
theorem g_and (q : t σ H fun c H1 => if c = true then u σ H1 QB else QB false H1) : tAnd t u σ H QB := q
theorem g_or (q : t σ H fun c H1 => if c = true then QB true H1 else u σ H1 QB) : tOr t u σ H QB := q
theorem g_andV (q : ta σ H fun x H1 => ∃ c, x = .bl c ∧ if c = true then tb σ H1 Q else Q (.bl false) H1) : tAndV ta tb σ H Q := q
theorem g_orV (q : ta σ H fun x H1 => ∃ c, x = .bl c ∧ if c = true then Q (.bl true) H1 else tb σ H1 Q) : tOrV ta tb σ H Q := q
theorem g_notV (q : ta σ H fun x H1 => ∃ c, x = .bl c ∧ Q (.bl (!c)) H1) : tNotV ta σ H Q := q
theorem g_if (q : t σ H fun c H1 => if c = true then ta σ H1 Q else tb σ H1 Q) : tIf t ta tb σ H Q := q
theorem g_sub {to ti : TE} {st : TSet} {Qs : L2.St → Hp → Prop} (q : to σ H fun o H1 => ti σ H1 fun i H2 => st o i v H2 fun H3 => Qs σ H3) : gSub to ti st v σ H Qs := q
theorem g_sz {n : Nat} {B : Prop} (h : n ≤ 100000) (q : B) : n ≤ sizeLine ∧ B := ⟨Nat.le_trans h (by decide), q⟩
theorem g_lenL {K : PySem.W.Frag} {p : Addr} {xs : List V} (h : SqL K H p xs) (q : Q (.int (xs.length : Nat)) H) : rLenN K [V.ref p] H Q := ⟨_, _, rfl, Or.inl ⟨xs, h, rfl⟩, q⟩
theorem g_lenT {K : PySem.W.Frag} {p : Addr} {xs : List V} (h : SqT K H p xs) (q : Q (.int (xs.length : Nat)) H) : rLenN K [V.ref p] H Q := ⟨_, _, rfl, Or.inr ⟨xs, h, rfl⟩, q⟩
theorem g_min2 (q : Q (.int (if b < a then b else a)) H) : rMin2 [.int a, .int b] H Q := ⟨a, b, rfl, q⟩
theorem g_max2 (q : Q (.int (if b > a then b else a)) H) : rMax2 [.int a, .int b] H Q := ⟨a, b, rfl, q⟩
theorem g_abs (q : Q (.int (if a < 0 then -a else a)) H) : rAbs [.int a] H Q := ⟨a, rfl, q⟩
theorem g_intI (q : Q (.int a) H) : rInt1 [.int a] H Q := .inl ⟨a, rfl, q⟩
theorem g_intB {k : Bool} (q : Q (.int (if k then 1 else 0)) H) : rInt1 [.bl k] H Q := .inr ⟨k, rfl, q⟩
theorem g_listL {K : PySem.W.Frag} {p : Addr} {xs : List V} (h : SqL K H p xs) (q : ∀ l, H l = none → Q (.ref l) (upd H l (.lst xs))) : rListOf K [.ref p] H Q := ⟨p, xs, rfl, .inl h, q⟩
theorem g_set41 {p : Addr} {x0 x1 x2 x3 : V} {QS : Hp → Prop} (h : H p = some (.lst [x0, x1, x2, x3])) (q : QS (upd H p (.lst [x0, v, x2, x3]))) : rSetL (.ref p) (.int 1) v H QS := ⟨p, _, 1, 1, rfl, rfl, h, rfl, q⟩
theorem g_set42 {p : Addr} {x0 x1 x2 x3 : V} {QS : Hp → Prop} (h : H p = some (.lst [x0, x1, x2, x3])) (q : QS (upd H p (.lst [x0, x1, v, x3]))) : rSetL (.ref p) (.int 2) v H QS := ⟨p, _, 2, 2, rfl, rfl, h, rfl, q⟩
theorem g_set43 {p : Addr} {x0 x1 x2 x3 : V} {QS : Hp → Prop} (h : H p = some (.lst [x0, x1, x2, x3])) (q : QS (upd H p (.lst [x0, x1, x2, v]))) : rSetL (.ref p) (.int 3) v H QS := ⟨p, _, 3, 3, rfl, rfl, h, rfl, q⟩
theorem g_setL {p : Addr} {xs ys : List V} {j : Nat} {QS : Hp → Prop} (h : H p = some (.lst xs)) (h2 : ixN xs.length a = some j) (h3 : xs.set j v = ys) (q : QS (upd H p (.lst ys))) : rSetL (.ref p) (.int a) v H QS := ⟨p, xs, a, j, rfl, rfl, h, h2, h3 ▸ q⟩
theorem g_chain (q : ta σ H fun x H1 => tb σ H1 fun y H2 => r x y H2 fun z H3 => ∃ k, z = .bl k ∧ (if k = true then tc σ H3 fun w' H4 => r' y w' H4 Q else Q (.bl false) H3)) : tChain r r' ta tb tc σ H Q := q
theorem g_nil (q : QA [] H) : tNil σ H QA := q
theorem g_cons {tr : TA} (q : te σ H fun x H1 => tr σ H1 fun xs H2 => QA (x :: xs) H2) : tCons te tr σ H QA := q
theorem g_call {sp : Sp} {dvs : List V} {E : XK} (q : tl σ H fun vs H1 => sp (vs ++ dvs) H1 Q E) : tCall sp dvs E tl σ H Q := q
theorem g_callB {rc : List V → Hp → VK → Prop} (q : tl σ H fun vs H1 => rc vs H1 Q) : tCB rc tl σ H Q := q
theorem g_lst (q : tl σ H fun xs H1 => xs.length ≤ sizeLine ∧ ∀ p, H1 p = none → Q (.ref p) (upd H1 p (.lst xs))) : tLst tl σ H Q := q
theorem g_tup (q : tl σ H fun xs H1 => xs.length ≤ sizeLine ∧ ∀ p, H1 p = none → Q (.ref p) (upd H1 p (.tup xs))) : tTup tl σ H Q := q
theorem g_seq (q : s1 { D with nx := s2 D } σ H) : tSeq s1 s2 D σ H := q
theorem g_asg (q : te σ H fun x H1 => g x σ H1 D.nx) : tAsg te g D σ H := q
theorem g_name {Qs : L2.St → Hp → Prop} (q : Qs (σ.set i (some v)) H) : gName i v σ H Qs := q
theorem g_name0 {x0 : Option V} {r : L2.St} {Qs : L2.St → Hp → Prop} (q : Qs (some v :: r) H) : gName 0 v (x0 :: r) H Qs := q
theorem g_name1 {x0 x1 : Option V} {r : L2.St} {Qs : L2.St → Hp → Prop} (q : Qs (x0 :: some v :: r) H) : gName 1 v (x0 :: x1 :: r) H Qs := q
theorem g_name2 {x0 x1 x2 : Option V} {r : L2.St} {Qs : L2.St → Hp → Prop} (q : Qs (x0 :: x1 :: some v :: r) H) : gName 2 v (x0 :: x1 :: x2 :: r) H Qs := q
theorem g_name3 {x0 x1 x2 x3 : Option V} {r : L2.St} {Qs : L2.St → Hp → Prop} (q : Qs (x0 :: x1 :: x2 :: some v :: r) H) : gName 3 v (x0 :: x1 :: x2 :: x3 :: r) H Qs := q
theorem g_name4 {x0 x1 x2 x3 x4 : Option V} {r : L2.St} {Qs : L2.St → Hp → Prop} (q : Qs (x0 :: x1 :: x2 :: x3 :: some v :: r) H) : gName 4 v (x0 :: x1 :: x2 :: x3 :: x4 :: r) H Qs := q
theorem g_name5 {x0 x1 x2 x3 x4 x5 : Option V} {r : L2.St} {Qs : L2.St → Hp → Prop} (q : Qs (x0 :: x1 :: x2 :: x3 :: x4 :: some v :: r) H) : gName 5 v (x0 :: x1 :: x2 :: x3 :: x4 :: x5 :: r) H Qs := q
theorem g_name6 {x0 x1 x2 x3 x4 x5 x6 : Option V} {r : L2.St} {Qs : L2.St → Hp → Prop} (q : Qs (x0 :: x1 :: x2 :: x3 :: x4 :: x5 :: some v :: r) H) : gName 6 v (x0 :: x1 :: x2 :: x3 :: x4 :: x5 :: x6 :: r) H Qs := q
theorem g_name7 {x0 x1 x2 x3 x4 x5 x6 x7 : Option V} {r : L2.St} {Qs : L2.St → Hp → Prop} (q : Qs (x0 :: x1 :: x2 :: x3 :: x4 :: x5 :: x6 :: some v :: r) H) : gName 7 v (x0 :: x1 :: x2 :: x3 :: x4 :: x5 :: x6 :: x7 :: r) H Qs := q
theorem g_name8 {x0 x1 x2 x3 x4 x5 x6 x7 x8 : Option V} {r : L2.St} {Qs : L2.St → Hp → Prop} (q : Qs (x0 :: x1 :: x2 :: x3 :: x4 :: x5 :: x6 :: x7 :: some v :: r) H) : gName 8 v (x0 :: x1 :: x2 :: x3 :: x4 :: x5 :: x6 :: x7 :: x8 :: r) H Qs := q
theorem g_name9 {x0 x1 x2 x3 x4 x5 x6 x7 x8 x9 : Option V} {r : L2.St} {Qs : L2.St → Hp → Prop} (q : Qs (x0 :: x1 :: x2 :: x3 :: x4 :: x5 :: x6 :: x7 :: x8 :: some v :: r) H) : gName 9 v (x0 :: x1 :: x2 :: x3 :: x4 :: x5 :: x6 :: x7 :: x8 :: x9 :: r) H Qs := q
theorem g_name10 {x0 x1 x2 x3 x4 x5 x6 x7 x8 x9 x10 : Option V} {r : L2.St} {Qs : L2.St → Hp → Prop} (q : Qs (x0 :: x1 :: x2 :: x3 :: x4 :: x5 :: x6 :: x7 :: x8 :: x9 :: some v :: r) H) : gName 10 v (x0 :: x1 :: x2 :: x3 :: x4 :: x5 :: x6 :: x7 :: x8 :: x9 :: x10 :: r) H Qs := q
theorem g_name11 {x0 x1 x2 x3 x4 x5 x6 x7 x8 x9 x10 x11 : Option V} {r : L2.St} {Qs : L2.St → Hp → Prop} (q : Qs (x0 :: x1 :: x2 :: x3 :: x4 :: x5 :: x6 :: x7 :: x8 :: x9 :: x10 :: some v :: r) H) : gName 11 v (x0 :: x1 :: x2 :: x3 :: x4 :: x5 :: x6 :: x7 :: x8 :: x9 :: x10 :: x11 :: r) H Qs := q
theorem g_name12 {x0 x1 x2 x3 x4 x5 x6 x7 x8 x9 x10 x11 x12 : Option V} {r : L2.St} {Qs : L2.St → Hp → Prop} (q : Qs (x0 :: x1 :: x2 :: x3 :: x4 :: x5 :: x6 :: x7 :: x8 :: x9 :: x10 :: x11 :: some v :: r) H) : gName 12 v (x0 :: x1 :: x2 :: x3 :: x4 :: x5 :: x6 :: x7 :: x8 :: x9 :: x10 :: x11 :: x12 :: r) H Qs := q
theorem g_name13 {x0 x1 x2 x3 x4 x5 x6 x7 x8 x9 x10 x11 x12 x13 : Option V} {r : L2.St} {Qs : L2.St → Hp → Prop} (q : Qs (x0 :: x1 :: x2 :: x3 :: x4 :: x5 :: x6 :: x7 :: x8 :: x9 :: x10 :: x11 :: x12 :: some v :: r) H) : gName 13 v (x0 :: x1 :: x2 :: x3 :: x4 :: x5 :: x6 :: x7 :: x8 :: x9 :: x10 :: x11 :: x12 :: x13 :: r) H Qs := q
theorem g_name14 {x0 x1 x2 x3 x4 x5 x6 x7 x8 x9 x10 x11 x12 x13 x14 : Option V} {r : L2.St} {Qs : L2.St → Hp → Prop} (q : Qs (x0 :: x1 :: x2 :: x3 :: x4 :: x5 :: x6 :: x7 :: x8 :: x9 :: x10 :: x11 :: x12 :: x13 :: some v :: r) H) : gName 14 v (x0 :: x1 :: x2 :: x3 :: x4 :: x5 :: x6 :: x7 :: x8 :: x9 :: x10 :: x11 :: x12 :: x13 :: x14 :: r) H Qs := q
theorem g_name15 {x0 x1 x2 x3 x4 x5 x6 x7 x8 x9 x10 x11 x12 x13 x14 x15 : Option V} {r : L2.St} {Qs : L2.St → Hp → Prop} (q : Qs (x0 :: x1 :: x2 :: x3 :: x4 :: x5 :: x6 :: x7 :: x8 :: x9 :: x10 :: x11 :: x12 :: x13 :: x14 :: some v :: r) H) : gName 15 v (x0 :: x1 :: x2 :: x3 :: x4 :: x5 :: x6 :: x7 :: x8 :: x9 :: x10 :: x11 :: x12 :: x13 :: x14 :: x15 :: r) H Qs := q
theorem g_name16 {x0 x1 x2 x3 x4 x5 x6 x7 x8 x9 x10 x11 x12 x13 x14 x15 x16 : Option V} {r : L2.St} {Qs : L2.St → Hp → Prop} (q : Qs (x0 :: x1 :: x2 :: x3 :: x4 :: x5 :: x6 :: x7 :: x8 :: x9 :: x10 :: x11 :: x12 :: x13 :: x14 :: x15 :: some v :: r) H) : gName 16 v (x0 :: x1 :: x2 :: x3 :: x4 :: x5 :: x6 :: x7 :: x8 :: x9 :: x10 :: x11 :: x12 :: x13 :: x14 :: x15 :: x16 :: r) H Qs := q
theorem g_name17 {x0 x1 x2 x3 x4 x5 x6 x7 x8 x9 x10 x11 x12 x13 x14 x15 x16 x17 : Option V} {r : L2.St} {Qs : L2.St → Hp → Prop} (q : Qs (x0 :: x1 :: x2 :: x3 :: x4 :: x5 :: x6 :: x7 :: x8 :: x9 :: x10 :: x11 :: x12 :: x13 :: x14 :: x15 :: x16 :: some v :: r) H) : gName 17 v (x0 :: x1 :: x2 :: x3 :: x4 :: x5 :: x6 :: x7 :: x8 :: x9 :: x10 :: x11 :: x12 :: x13 :: x14 :: x15 :: x16 :: x17 :: r) H Qs := q
theorem g_name18 {x0 x1 x2 x3 x4 x5 x6 x7 x8 x9 x10 x11 x12 x13 x14 x15 x16 x17 x18 : Option V} {r : L2.St} {Qs : L2.St → Hp → Prop} (q : Qs (x0 :: x1 :: x2 :: x3 :: x4 :: x5 :: x6 :: x7 :: x8 :: x9 :: x10 :: x11 :: x12 :: x13 :: x14 :: x15 :: x16 :: x17 :: some v :: r) H) : gName 18 v (x0 :: x1 :: x2 :: x3 :: x4 :: x5 :: x6 :: x7 :: x8 :: x9 :: x10 :: x11 :: x12 :: x13 :: x14 :: x15 :: x16 :: x17 :: x18 :: r) H Qs := q
theorem g_name19 {x0 x1 x2 x3 x4 x5 x6 x7 x8 x9 x10 x11 x12 x13 x14 x15 x16 x17 x18 x19 : Option V} {r : L2.St} {Qs : L2.St → Hp → Prop} (q : Qs (x0 :: x1 :: x2 :: x3 :: x4 :: x5 :: x6 :: x7 :: x8 :: x9 :: x10 :: x11 :: x12 :: x13 :: x14 :: x15 :: x16 :: x17 :: x18 :: some v :: r) H) : gName 19 v (x0 :: x1 :: x2 :: x3 :: x4 :: x5 :: x6 :: x7 :: x8 :: x9 :: x10 :: x11 :: x12 :: x13 :: x14 :: x15 :: x16 :: x17 :: x18 :: x19 :: r) H Qs := q
theorem g_name20 {x0 x1 x2 x3 x4 x5 x6 x7 x8 x9 x10 x11 x12 x13 x14 x15 x16 x17 x18 x19 x20 : Option V} {r : L2.St} {Qs : L2.St → Hp → Prop} (q : Qs (x0 :: x1 :: x2 :: x3 :: x4 :: x5 :: x6 :: x7 :: x8 :: x9 :: x10 :: x11 :: x12 :: x13 :: x14 :: x15 :: x16 :: x17 :: x18 :: x19 :: some v :: r) H) : gName 20 v (x0 :: x1 :: x2 :: x3 :: x4 :: x5 :: x6 :: x7 :: x8 :: x9 :: x10 :: x11 :: x12 :: x13 :: x14 :: x15 :: x16 :: x17 :: x18 :: x19 :: x20 :: r) H Qs := q
theorem g_name21 {x0 x1 x2 x3 x4 x5 x6 x7 x8 x9 x10 x11 x12 x13 x14 x15 x16 x17 x18 x19 x20 x21 : Option V} {r : L2.St} {Qs : L2.St → Hp → Prop} (q : Qs (x0 :: x1 :: x2 :: x3 :: x4 :: x5 :: x6 :: x7 :: x8 :: x9 :: x10 :: x11 :: x12 :: x13 :: x14 :: x15 :: x16 :: x17 :: x18 :: x19 :: x20 :: some v :: r) H) : gName 21 v (x0 :: x1 :: x2 :: x3 :: x4 :: x5 :: x6 :: x7 :: x8 :: x9 :: x10 :: x11 :: x12 :: x13 :: x14 :: x15 :: x16 :: x17 :: x18 :: x19 :: x20 :: x21 :: r) H Qs := q
theorem g_name22 {x0 x1 x2 x3 x4 x5 x6 x7 x8 x9 x10 x11 x12 x13 x14 x15 x16 x17 x18 x19 x20 x21 x22 : Option V} {r : L2.St} {Qs : L2.St → Hp → Prop} (q : Qs (x0 :: x1 :: x2 :: x3 :: x4 :: x5 :: x6 :: x7 :: x8 :: x9 :: x10 :: x11 :: x12 :: x13 :: x14 :: x15 :: x16 :: x17 :: x18 :: x19 :: x20 :: x21 :: some v :: r) H) : gName 22 v (x0 :: x1 :: x2 :: x3 :: x4 :: x5 :: x6 :: x7 :: x8 :: x9 :: x10 :: x11 :: x12 :: x13 :: x14 :: x15 :: x16 :: x17 :: x18 :: x19 :: x20 :: x21 :: x22 :: r) H Qs := q
theorem g_name23 {x0 x1 x2 x3 x4 x5 x6 x7 x8 x9 x10 x11 x12 x13 x14 x15 x16 x17 x18 x19 x20 x21 x22 x23 : Option V} {r : L2.St} {Qs : L2.St → Hp → Prop} (q : Qs (x0 :: x1 :: x2 :: x3 :: x4 :: x5 :: x6 :: x7 :: x8 :: x9 :: x10 :: x11 :: x12 :: x13 :: x14 :: x15 :: x16 :: x17 :: x18 :: x19 :: x20 :: x21 :: x22 :: some v :: r) H) : gName 23 v (x0 :: x1 :: x2 :: x3 :: x4 :: x5 :: x6 :: x7 :: x8 :: x9 :: x10 :: x11 :: x12 :: x13 :: x14 :: x15 :: x16 :: x17 :: x18 :: x19 :: x20 :: x21 :: x22 :: x23 :: r) H Qs := q
theorem g_name24 {x0 x1 x2 x3 x4 x5 x6 x7 x8 x9 x10 x11 x12 x13 x14 x15 x16 x17 x18 x19 x20 x21 x22 x23 x24 : Option V} {r : L2.St} {Qs : L2.St → Hp → Prop} (q : Qs (x0 :: x1 :: x2 :: x3 :: x4 :: x5 :: x6 :: x7 :: x8 :: x9 :: x10 :: x11 :: x12 :: x13 :: x14 :: x15 :: x16 :: x17 :: x18 :: x19 :: x20 :: x21 :: x22 :: x23 :: some v :: r) H) : gName 24 v (x0 :: x1 :: x2 :: x3 :: x4 :: x5 :: x6 :: x7 :: x8 :: x9 :: x10 :: x11 :: x12 :: x13 :: x14 :: x15 :: x16 :: x17 :: x18 :: x19 :: x20 :: x21 :: x22 :: x23 :: x24 :: r) H Qs := q
theorem g_name25 {x0 x1 x2 x3 x4 x5 x6 x7 x8 x9 x10 x11 x12 x13 x14 x15 x16 x17 x18 x19 x20 x21 x22 x23 x24 x25 : Option V} {r : L2.St} {Qs : L2.St → Hp → Prop} (q : Qs (x0 :: x1 :: x2 :: x3 :: x4 :: x5 :: x6 :: x7 :: x8 :: x9 :: x10 :: x11 :: x12 :: x13 :: x14 :: x15 :: x16 :: x17 :: x18 :: x19 :: x20 :: x21 :: x22 :: x23 :: x24 :: some v :: r) H) : gName 25 v (x0 :: x1 :: x2 :: x3 :: x4 :: x5 :: x6 :: x7 :: x8 :: x9 :: x10 :: x11 :: x12 :: x13 :: x14 :: x15 :: x16 :: x17 :: x18 :: x19 :: x20 :: x21 :: x22 :: x23 :: x24 :: x25 :: r) H Qs := q
theorem g_start {t : TS} {σ' : L2.St} (h : σ' = σ) (q : t D σ H) : t D σ' H := h ▸ q
theorem g_ifS (q : t σ H fun b H1 => if b = true then s1 D σ H1 else s2 D σ H1) : tIfS t s1 s2 D σ H := q
theorem g_ret (q : te σ H D.rt) : tRet te D σ H := q
theorem g_retN (q : D.rt .non H) : tRetN D σ H := q
theorem g_drop (q : te σ H fun _ H1 => D.nx σ H1) : tDrop te D σ H := q
theorem g_next (q : D.nx σ H) : tNext D σ H := q
theorem g_ixL {K : PySem.W.Frag} {p : Addr} {xs : List V} (h : SqL K H p xs) (h2 : atI xs a = some v) (q : Q v H) : rIxL K (.ref p) (.int a) H Q := ⟨p, xs, a, v, rfl, rfl, h, h2, q⟩
theorem g_ixAny {K : PySem.W.Frag} {p : Addr} {xs : List V} (h : SqL K H p xs) (h0 : 0 ≤ a) (h1 : a < (xs.length : Int)) (q : ∀ v, v ∈ xs → Q v H) : rIxL K (.ref p) (.int a) H Q := by
  obtain ⟨j, rfl⟩ : ∃ j : Nat, a = (j : Int) := ⟨a.toNat, by omega⟩
  have hl : j < xs.length := by omega
  exact ⟨p, xs, _, xs[j], rfl, rfl, h, atI_nat (by simp [hl]), q _ (List.getElem_mem hl)⟩
theorem g_ixT {K : PySem.W.Frag} {p : Addr} {xs : List V} (h : SqT K H p xs) (h2 : atI xs a = some v) (q : Q v H) : rIxT K (.ref p) (.int a) H Q := ⟨p, xs, a, v, rfl, rfl, h, h2, q⟩
theorem ite_dec {c : Prop} [Decidable c] {A B : Prop} (h1 : c → A) (h2 : ¬ c → B) : if decide c = true then A else B := by
  by_cases h : c
  · rw [if_pos (decide_eq_true h)]
    exact h1 h
  · rw [if_neg (by rw [decide_eq_false h]; decide)]
    exact h2 h
theorem ite_ndec {c : Prop} [Decidable c] {A B : Prop} (h1 : ¬ c → A) (h2 : c → B) : if (!decide c) = true then A else B := by
  by_cases h : c
  · rw [if_neg (by rw [decide_eq_true h]; decide)]
    exact h2 h
  · rw [if_pos (by rw [decide_eq_false h]; decide)]
    exact h1 h
theorem ite_bool {c : Bool} {A B : Prop} (h1 : c = true → A) (h2 : c = false → B) : if c = true then A else B := by
  cases c with
  | true => exact iteT (h1 rfl)
  | false => exact iteF (h2 rfl)
end
/-! ### heaps -/
theorem Same.at {H H' : Hp} (e : Same H H') {b : Addr} {o : HO} (h : H b = some o) : H' b = some o := e b o h
theorem Same.new {H : Hp} {p : Addr} {o : HO} (h : H p = none) : Same H (upd H p o) := fun a u e => by
  rw [upd_ne (ne_of_none e h)]
  exact e
theorem Same.seqT {K : PySem.W.Frag} {H H' : Hp} {a : Addr} {xs : List V} (e : Same H H') (h : SqT K H a xs) : SqT K H' a xs := by
  rcases h with (h | ⟨o, h⟩) | h
  · exact .inl (.inl (e _ _ h))
  · exact .inl (.inr ⟨o, e _ _ h⟩)
  · exact .inr h
theorem upd_old {H : Hp} {a p : Addr} {o u : HO} (h : H a = some o) (hp : H p = none) : upd H p u a = some o := by
  rw [upd_ne (ne_of_none h hp)]
  exact h
theorem sz {n : Nat} (h : n ≤ 100000) : n ≤ sizeLine := Nat.le_trans h (by decide)
theorem szl {n : Nat} (h : n < 100000) : n < sizeLine := Nat.lt_of_lt_of_le h (by decide)
theorem int_at {ns : List Int} {i : Nat} {y : V} (h : (ns.map V.int)[i]? = some y) : ∃ z, y = V.int z ∧ ns[i]? = some z := by
  rw [List.getElem?_map] at h
  cases e : ns[i]? with
  | none => rw [e] at h; cases h
  | some z => rw [e] at h; exact ⟨z, (Option.some.inj h).symm, rfl⟩
/-- all that is tracked stays, but what stands at a -/
def Kp (a : Addr) (H H' : Hp) : Prop := ∀ b o, H b = some o → b ≠ a → H' b = some o
theorem Kp.refl {a : Addr} {H : Hp} : Kp a H H := fun _ _ h _ => h
theorem Kp.trans {a : Addr} {H H1 H2 : Hp} (x : Kp a H H1) (y : Kp a H1 H2) : Kp a H H2 := fun b o h n => y b o (x b o h n) n
theorem Kp.same {a : Addr} {H H' : Hp} (e : Same H H') : Kp a H H' := fun b o h _ => e b o h
theorem Kp.upd {a : Addr} {H : Hp} {o : HO} : Kp a H (upd H a o) := fun b u h n => by
  rw [upd_ne n]
  exact h
/-- the drawing state at a: the script at s, how many cells are begun, two numbers more -/
structure Dr (K : PySem.W.Frag) (a s : Addr) (H : Hp) : Prop where
  ex : ∃ (ns : List Int) (i m l : Int), H a = some (.lst [.ref s, .int i, .int m, .int l]) ∧ (∀ o, SqL K (upd H a o) s (ns.map V.int)) ∧ ns.length ≤ 63 ∧ 0 ≤ i
theorem Same.upd {H H' : Hp} (e : Same H H') (a : Addr) (o : HO) : Same (upd H a o) (upd H' a o) := fun b u h => by
  by_cases hb : b = a
  · subst hb
    rw [upd_same] at h ⊢
    exact h
  · rw [upd_ne hb] at h ⊢
    exact e b u h
theorem Dr.same {K : PySem.W.Frag} {a s : Addr} {H H' : Hp} (d : Dr K a s H) (e : Same H H') : Dr K a s H' := by
  obtain ⟨ns, i, m, l, h1, h2, h3, h4⟩ := d.ex
  exact ⟨ns, i, m, l, e _ _ h1, fun o => (Same.upd e a o).seq (h2 o), h3, h4⟩
theorem Dr.ne {K : PySem.W.Frag} {a s p : Addr} {H : Hp} (d : Dr K a s H) (h : H p = none) : p ≠ a := by
  obtain ⟨ns, i, m, l, h1, _⟩ := d.ex
  exact (ne_of_none h1 h).symm
theorem Dr.ne2 {K : PySem.W.Frag} {a s p : Addr} {H : Hp} (h : H p = none) (d : Dr K a s H) : p ≠ a := d.ne h
theorem upd_self {H : Hp} {a : Addr} {o : HO} (h : H a = some o) : L2.upd H a o = H := by
  funext b
  by_cases hb : b = a
  · subst hb
    rw [upd_same, h]
  · rw [upd_ne hb]
/-- a new thing, not known to H, is changed: the state stays one -/
theorem Dr.mut {K : PySem.W.Frag} {a s D : Addr} {H H' : Hp} {o : HO} (d : Dr K a s H) (d' : Dr K a s H') (h : H D = none) : Dr K a s (L2.upd H' D o) := by
  obtain ⟨ns, i, m, l, h1, h2, h3, h4⟩ := d.ex
  obtain ⟨ns', i', m', l', g1, g2, g3, g4⟩ := d'.ex
  have nDa : a ≠ D := ne_of_none h1 h
  rcases h2 (.tbl #[]) with hr | hk
  · have nDs : s ≠ D := fun e => by
      subst e
      have z : L2.upd H a (.tbl #[]) s = none := by rw [upd_ne nDa.symm]; exact h
      rcases hr with hr | ⟨_, hr⟩ <;> rw [z] at hr <;> cases hr
    refine ⟨ns', i', m', l', by rw [upd_ne nDa]; exact g1, fun o' => ?_, g3, g4⟩
    have e : L2.upd (L2.upd H' D o) a o' s = L2.upd H' a o' s := by
      by_cases z : s = a
      · subst z; rw [upd_same, upd_same]
      · rw [upd_ne z, upd_ne z, upd_ne nDs]
    rcases g2 o' with q | q
    · refine .inl ?_
      rcases q with q | ⟨u, q⟩
      · exact .inl (e.trans q)
      · exact .inr ⟨u, e.trans q⟩
    · exact .inr q
  · exact ⟨ns, i', m', l', by rw [upd_ne nDa]; exact g1, fun o' => .inr hk, h3, g4⟩
/-- a def that only draws: the state stays a state, all else stays -/
structure Go (K : PySem.W.Frag) (a s : Addr) (H H' : Hp) : Prop where
  dr : Dr K a s H'
  kp : Kp a H H'
section
variable {K : PySem.W.Frag} {a s b D : Addr} {H H1 H2 H' : Hp} {o : HO}
theorem Go.trans (x : Go K a s H H1) (y : Go K a s H1 H2) : Go K a s H H2 := ⟨y.dr, x.kp.trans y.kp⟩
theorem Go.same (d : Dr K a s H) (e : Same H H') : Go K a s H H' := ⟨d.same e, Kp.same e⟩
theorem Go.refl (d : Dr K a s H) : Go K a s H H := ⟨d, Kp.refl⟩
theorem Go.at (x : Go K a s H H') (h : H b = some o) (n : b ≠ a) : H' b = some o := x.kp b o h n
theorem Go.then (x : Go K a s H H1) (e : Same H1 H2) : Go K a s H H2 := ⟨x.dr.same e, x.kp.trans (Kp.same e)⟩
/-- behind a new thing -/
theorem Go.pre (x : Go K a s H1 H2) (e : Same H H1) : Go K a s H H2 := ⟨x.dr, (Kp.same e).trans x.kp⟩
theorem Go.new (x : Go K a s (upd H D o) H2) (h : H D = none) : Go K a s H H2 := x.pre (Same.new h)
theorem Go.mut (g : Go K a s H H') (d : Dr K a s H) (h : H D = none) : Go K a s H (L2.upd H' D o) := ⟨d.mut g.dr h, fun b u hb hn => by
  rw [upd_ne (ne_of_none hb h)]
  exact g.kp b u hb hn⟩
theorem Go.seq {xs : List V} {p : Addr} (g : Go K a s H H') (h : SqL K H p xs) (n : p ≠ a) : SqL K H' p xs := by
  rcases h with (h | ⟨o, h⟩) | h
  · exact .inl (.inl (g.kp _ _ h n))
  · exact .inl (.inr ⟨o, g.kp _ _ h n⟩)
  · exact .inr h
end
theorem Same.mut {H H' : Hp} {D : Addr} {o : HO} (e : Same H H') (h : H D = none) : Same H (L2.upd H' D o) := fun b u hb => by
  rw [upd_ne (ne_of_none hb h)]
  exact e b u hb
/-! ### comprehensions: J tells of the turn, of what is made so far, of the heap; it does not look at the new list D -/
def LcP (J : Nat → List V → Hp → Prop) (D : Addr) (i : Nat) (H : Hp) : Prop := ∃ acc, J i acc H ∧ H D = some (.lst acc) ∧ acc.length ≤ i
section
variable {K : PySem.W.Frag} {a : Addr} {xs : List V} {g : TG} {tt : TT} {te : TE} {vs : List Nat} {σ : L2.St} {H1 : Hp} {D : Addr} {Qd : Hp → Prop}
theorem lc_leaf {J : Nat → List V → Hp → Prop} {i : Nat} {acc : List V} {H : Hp} {y : V} (hI : ∀ i acc H o, J i acc H → J i acc (upd H D o)) (hD : H D = some (.lst acc)) (hl : acc.length ≤ i) (hi : i < 100000) (hJ : J (i + 1) (acc ++ [y]) H) :
    ∃ acc, H D = some (.lst acc) ∧ acc.length < sizeLine ∧ LcP J D (i + 1) (upd H D (.lst (acc ++ [y]))) :=
  ⟨acc, hD, szl (by omega), acc ++ [y], hI _ _ _ _ hJ, upd_same, by rw [List.length_append, List.length_singleton]; omega⟩
theorem lc_skip {J : Nat → List V → Hp → Prop} {i : Nat} {acc : List V} {H : Hp} (hD : H D = some (.lst acc)) (hl : acc.length ≤ i) (hJ : J (i + 1) acc H) : LcP J D (i + 1) H := ⟨acc, hJ, hD, by omega⟩
theorem lc_L (J : Nat → List V → Hp → Prop) (hI : ∀ i acc H o, J i acc H → J i acc (upd H D o)) (h0 : J 0 [] H1) (hl : ∀ i acc H, J i acc H → SqL K H a xs)
    (hs : ∀ i x acc H, xs[i]? = some x → J i acc H → H D = some (.lst acc) → acc.length ≤ i → g x (wipe σ vs) H fun σ2 H2 => wipe σ2 vs = wipe σ vs ∧ tt σ2 H2 fun b H3 =>
      if b = true then te σ2 H3 fun y H4 => ∃ acc, H4 D = some (.lst acc) ∧ acc.length < sizeLine ∧ LcP J D (i + 1) (upd H4 D (.lst (acc ++ [y]))) else LcP J D (i + 1) H3)
    (hd : ∀ acc H, J xs.length acc H → H D = some (.lst acc) → Qd H) :
    ∃ W : Nat → Nat → Hp → Prop, (∃ m, W 0 m (upd H1 D (.lst []))) ∧ ∀ i m H, W i m H →
      ((Itl K a).stop i H ∧ Qd H) ∨ ((Itl K a).go i H ∧ ∃ Nx : Hp → Prop, (∀ H', Nx H' → ∃ m', m' < m ∧ W (i + 1) m' H') ∧ ∀ x H', (Itl K a).yld i H x H' → g x (wipe σ vs) H' fun σ2 H2 => wipe σ2 vs = wipe σ vs ∧ tt σ2 H2 fun b H3 =>
        if b = true then te σ2 H3 fun y H4 => ∃ acc, H4 D = some (.lst acc) ∧ acc.length < sizeLine ∧ Nx (upd H4 D (.lst (acc ++ [y]))) else Nx H3) :=
  lc_list (K := K) (a := a) (xs := xs) (LcP J D) ⟨[], hI _ _ _ _ h0, upd_same, Nat.le_refl _⟩ (fun i H _ ⟨acc, h, _⟩ => hl i acc H h) (fun i x H hi ⟨acc, hJ, hD, hlen⟩ => hs i x acc H hi hJ hD hlen) (fun H ⟨acc, h1, h2, _⟩ => hd acc H h1 h2)
theorem lc_R (lo : Int) (n : Nat) (J : Nat → List V → Hp → Prop) (hI : ∀ i acc H o, J i acc H → J i acc (upd H D o)) (h0 : J 0 [] H1)
    (hs : ∀ i acc H, i < n → J i acc H → H D = some (.lst acc) → acc.length ≤ i → g (.int (lo + i)) (wipe σ vs) H fun σ2 H2 => wipe σ2 vs = wipe σ vs ∧ tt σ2 H2 fun b H3 =>
      if b = true then te σ2 H3 fun y H4 => ∃ acc, H4 D = some (.lst acc) ∧ acc.length < sizeLine ∧ LcP J D (i + 1) (upd H4 D (.lst (acc ++ [y]))) else LcP J D (i + 1) H3)
    (hd : ∀ acc H, J n acc H → H D = some (.lst acc) → Qd H) :
    ∃ W : Nat → Nat → Hp → Prop, (∃ m, W 0 m (upd H1 D (.lst []))) ∧ ∀ i m H, W i m H →
      ((Itr lo n).stop i H ∧ Qd H) ∨ ((Itr lo n).go i H ∧ ∃ Nx : Hp → Prop, (∀ H', Nx H' → ∃ m', m' < m ∧ W (i + 1) m' H') ∧ ∀ x H', (Itr lo n).yld i H x H' → g x (wipe σ vs) H' fun σ2 H2 => wipe σ2 vs = wipe σ vs ∧ tt σ2 H2 fun b H3 =>
        if b = true then te σ2 H3 fun y H4 => ∃ acc, H4 D = some (.lst acc) ∧ acc.length < sizeLine ∧ Nx (upd H4 D (.lst (acc ++ [y]))) else Nx H3) :=
  lc_range (lo := lo) (n := n) (LcP J D) ⟨[], hI _ _ _ _ h0, upd_same, Nat.le_refl _⟩ (fun i H hi ⟨acc, hJ, hD, hlen⟩ => hs i acc H hi hJ hD hlen) (fun H ⟨acc, h1, h2, _⟩ => hd acc H h1 h2)
theorem g_for {wi : TI} {tb : TS} {D : Ends} {H : Hp} (q : wi σ H fun J H1 => ∃ W : Nat → Nat → L2.St → Hp → Prop, (∃ m, W 0 m σ H1) ∧ ∀ i m σ H, W i m σ H →
  (J.stop i H ∧ D.nx σ H) ∨ (J.go i H ∧ ∃ N : L2.St → Hp → Prop, (∀ σ' H', N σ' H' → ∃ m', m' < m ∧ W (i + 1) m' σ' H') ∧ ∀ x H', J.yld i H x H' → g x σ H' fun σ2 H2 => tb { D with nx := N, ct := N, bk := D.nx } σ2 H2)) : tFor wi g tb D σ H := q
theorem g_lc {wi : TI} {H : Hp} {Q : VK} (q : wi σ H fun J H1 => ∀ D, H1 D = none → ∃ W : Nat → Nat → Hp → Prop, (∃ m, W 0 m (upd H1 D (.lst []))) ∧ ∀ i m H, W i m H →
  (J.stop i H ∧ Q (.ref D) H) ∨ (J.go i H ∧ ∃ Nx : Hp → Prop, (∀ H', Nx H' → ∃ m', m' < m ∧ W (i + 1) m' H') ∧ ∀ x H', J.yld i H x H' → g x (wipe σ vs) H' fun σ2 H2 => wipe σ2 vs = wipe σ vs ∧ tt σ2 H2 fun b H3 =>
    if b = true then te σ2 H3 fun y H4 => ∃ acc, H4 D = some (.lst acc) ∧ acc.length < sizeLine ∧ Nx (upd H4 D (.lst (acc ++ [y]))) else Nx H3)) : tLc wi g tt te vs σ H Q := q
theorem g_iL {tl : TE} {H : Hp} {R : It → Hp → Prop} (q : tl σ H fun x H1 => ∃ a, x = .ref a ∧ (∃ xs, SqL K H1 a xs) ∧ R (Itl K a) H1) : iList K tl σ H R := q
theorem g_iT {tl : TE} {H : Hp} {R : It → Hp → Prop} (q : tl σ H fun x H1 => ∃ a, x = .ref a ∧ (∃ xs, SqT K H1 a xs) ∧ R (Itt K a) H1) : iTup K tl σ H R := q
theorem g_iR1 {ta : TA} {H : Hp} {R : It → Hp → Prop} (q : ta σ H fun vs H1 => ∃ j : Int, vs = [.int j] ∧ -(2 ^ 62) ≤ j ∧ j < 2 ^ 62 ∧ R (Itr 0 j.toNat) H1) : iRng1 ta σ H R := q
theorem g_iR2 {ta : TA} {H : Hp} {R : It → Hp → Prop} (q : ta σ H fun vs H1 => ∃ i j : Int, vs = [.int i, .int j] ∧ (-(2 ^ 62) ≤ i ∧ i < 2 ^ 62 ∧ -(2 ^ 62) ≤ j ∧ j < 2 ^ 62) ∧ R (Itr i (j - i).toNat) H1) : iRng2 ta σ H R := q
theorem g_iE {ta : TA} {H : Hp} {R : It → Hp → Prop} (q : ta σ H fun vs H1 => ∃ a xs, vs = [.ref a] ∧ SqL K H1 a xs ∧ R (Ite K a) H1) : iEnum K ta σ H R := q
theorem g_bm {T : String} {r : V → List V → Hp → VK → Prop} {to : TE} {t : TA} {H : Hp} {Q : VK} (q : to σ H fun x H1 => tyV K T x H1 ∧ t σ H1 fun xs H2 => r x xs H2 Q) : tBM K T r to t σ H Q := q
theorem g_app {p : Addr} {xs : List V} {y : V} {H : Hp} {Q : VK} (h : H p = some (.lst xs)) (hl : xs.length < 100000) (q : Q .non (upd H p (.lst (xs ++ [y])))) : rAppend (.ref p) [y] H Q := ⟨p, xs, y, rfl, rfl, h, szl hl, q⟩
theorem g_tyL {p : Addr} {xs : List V} {H : Hp} {B : Prop} (h : SqL K H p xs) (q : B) : tyV K "list" (.ref p) H ∧ B := ⟨Or.inl ⟨rfl, xs, h⟩, q⟩
theorem g_cat {p r : Addr} {xs ys : List V} {H : Hp} {Q : VK} (h : H p = some (.lst xs)) (h2 : H r = some (.lst ys)) (hl : xs.length + ys.length ≤ 100000) (q : ∀ l, H l = none → Q (.ref l) (upd H l (.lst (xs ++ ys)))) : rCat (.ref p) (.ref r) H Q := ⟨p, r, xs, ys, rfl, rfl, h, h2, sz hl, q⟩
/-- what follows a test is shown once, from M -/
theorem g_cut {t : TT} {H : Hp} {QB : Bool → Hp → Prop} (M : Bool → Hp → Prop) (h : ∀ QB' : Bool → Hp → Prop, (∀ b H', M b H' → QB' b H') → t σ H QB') (q : ∀ b H', M b H' → QB b H') : t σ H QB := h QB q
/-- .. an expression -/
theorem g_cutE {t : TE} {H : Hp} {Q : VK} (M : V → Hp → Prop) (h : ∀ Q' : VK, (∀ v H', M v H' → Q' v H') → t σ H Q') (q : ∀ v H', M v H' → Q v H') : t σ H Q := h Q q
/-- .. a statement -/
theorem g_cutS {t : TS} {D : Ends} {H : Hp} (M : L2.St → Hp → Prop) (h : ∀ N : L2.St → Hp → Prop, (∀ σ' H', M σ' H' → N σ' H') → t { D with nx := N } σ H) (q : ∀ σ' H', M σ' H' → D.nx σ' H') : t D σ H := h D.nx q
theorem g_yes {QB : Bool → Hp → Prop} {H : Hp} (q : QB true H) : tYes σ H QB := q
theorem g_tup2 {g1 g2 : TG} {x y : V} {p : Addr} {H : Hp} {Qs : L2.St → Hp → Prop} (h : SqT K H p [x, y]) (q : g1 x σ H fun σ1 H2 => g2 y σ1 H2 Qs) : gTup K 2 (gCons g1 (gCons g2 gNil)) (.ref p) σ H Qs := by
  refine ⟨p, _, rfl, h, rfl, x, _, rfl, ?_⟩
  revert q
  intro q
  exact (show (g1 x σ H fun σ1 H2 => ∃ v r, [y] = v :: r ∧ g2 v σ1 H2 fun σ' H' => r = [] ∧ Qs σ' H') from by
    have e : (fun (σ1 : L2.St) (H2 : Hp) => ∃ (v : V) (r : List V), [y] = v :: r ∧ g2 v σ1 H2 fun σ' H' => r = [] ∧ Qs σ' H') = fun σ1 H2 => g2 y σ1 H2 Qs := by
      funext σ1 H2
      refine propext ⟨?_, ?_⟩
      · rintro ⟨v, r, e, h⟩
        cases e
        have e2 : (fun (σ' : L2.St) (H' : Hp) => ([] : List V) = [] ∧ Qs σ' H') = Qs := by
          funext σ' H'
          exact propext ⟨fun h => h.2, fun h => ⟨rfl, h⟩⟩
        rw [e2] at h
        exact h
      · intro h
        refine ⟨y, [], rfl, ?_⟩
        have e2 : (fun (σ' : L2.St) (H' : Hp) => ([] : List V) = [] ∧ Qs σ' H') = Qs := by
          funext σ' H'
          exact propext ⟨fun h => h.2, fun h => ⟨rfl, h⟩⟩
        rw [e2]
        exact h
    rw [e]
    exact q)
/-- loops, what follows and the body any way -/
theorem for_E {H : Hp} {B : (L2.St → Hp → Prop) → L2.St → Hp → Prop} {nx : L2.St → Hp → Prop} (Pv : Nat → L2.St → Hp → Prop) (h0 : Pv 0 σ H) (hl : ∀ i σ H, i ≤ xs.length → Pv i σ H → SqL K H a xs)
    (hs : ∀ i x σ H T, xs[i]? = some x → Pv i σ H → H T = none → g (.ref T) σ (upd H T (.tup [.int (i : Nat), x])) fun σ2 H2 => B (Pv (i + 1)) σ2 H2) (hd : ∀ σ H, Pv xs.length σ H → nx σ H) :
    ∃ W : Nat → Nat → L2.St → Hp → Prop, (∃ m, W 0 m σ H) ∧ ∀ i m σ H, W i m σ H →
      ((Ite K a).stop i H ∧ nx σ H) ∨ ((Ite K a).go i H ∧ ∃ N : L2.St → Hp → Prop, (∀ σ' H', N σ' H' → ∃ m', m' < m ∧ W (i + 1) m' σ' H') ∧ ∀ x H', (Ite K a).yld i H x H' → g x σ H' fun σ2 H2 => B N σ2 H2) := by
  refine ⟨fun i m σ H => m = xs.length - i ∧ i ≤ xs.length ∧ Pv i σ H, ⟨xs.length, by simp, Nat.zero_le _, h0⟩, ?_⟩
  rintro i m σ H ⟨rfl, hi, p⟩
  have q := hl i σ H hi p
  by_cases hlt : i < xs.length
  · refine .inr ⟨⟨xs, xs[i], q, by simp [hlt]⟩, Pv (i + 1), fun σ' H' p' => ⟨xs.length - (i + 1), by omega, rfl, hlt, p'⟩, fun x H' y => ?_⟩
    obtain ⟨T, z, e1, e2, e3, e4⟩ := y
    subst e1 e3
    exact hs i z σ H T (e4 xs q) p e2
  · have e : i = xs.length := by omega
    subst e
    exact .inl ⟨⟨xs, q, Nat.le_refl _⟩, hd σ H p⟩
theorem for_L {H : Hp} {B : (L2.St → Hp → Prop) → L2.St → Hp → Prop} {nx : L2.St → Hp → Prop} (Pv : Nat → L2.St → Hp → Prop) (h0 : Pv 0 σ H) (hl : ∀ i σ H, i ≤ xs.length → Pv i σ H → SqL K H a xs)
    (hs : ∀ i x σ H, xs[i]? = some x → Pv i σ H → g x σ H fun σ2 H2 => B (Pv (i + 1)) σ2 H2) (hd : ∀ σ H, Pv xs.length σ H → nx σ H) :
    ∃ W : Nat → Nat → L2.St → Hp → Prop, (∃ m, W 0 m σ H) ∧ ∀ i m σ H, W i m σ H →
      ((Itl K a).stop i H ∧ nx σ H) ∨ ((Itl K a).go i H ∧ ∃ N : L2.St → Hp → Prop, (∀ σ' H', N σ' H' → ∃ m', m' < m ∧ W (i + 1) m' σ' H') ∧ ∀ x H', (Itl K a).yld i H x H' → g x σ H' fun σ2 H2 => B N σ2 H2) := by
  refine ⟨fun i m σ H => m = xs.length - i ∧ i ≤ xs.length ∧ Pv i σ H, ⟨xs.length, by simp, Nat.zero_le _, h0⟩, ?_⟩
  rintro i m σ H ⟨rfl, hi, p⟩
  have q := hl i σ H hi p
  by_cases hlt : i < xs.length
  · refine .inr ⟨⟨xs, xs[i], q, by simp [hlt]⟩, Pv (i + 1), fun σ' H' p' => ⟨xs.length - (i + 1), by omega, rfl, hlt, p'⟩, fun x H' y => ?_⟩
    obtain ⟨e, y⟩ := y
    subst e
    exact hs i x σ _ (y xs q) p
  · have e : i = xs.length := by omega
    subst e
    exact .inl ⟨⟨xs, q, Nat.le_refl _⟩, hd σ H p⟩
theorem for_R {H : Hp} {lo : Int} {n : Nat} {B : (L2.St → Hp → Prop) → L2.St → Hp → Prop} {nx : L2.St → Hp → Prop} (Pv : Nat → L2.St → Hp → Prop) (h0 : Pv 0 σ H)
    (hs : ∀ i σ H, i < n → Pv i σ H → g (.int (lo + i)) σ H fun σ2 H2 => B (Pv (i + 1)) σ2 H2) (hd : ∀ σ H, Pv n σ H → nx σ H) :
    ∃ W : Nat → Nat → L2.St → Hp → Prop, (∃ m, W 0 m σ H) ∧ ∀ i m σ H, W i m σ H →
      ((Itr lo n).stop i H ∧ nx σ H) ∨ ((Itr lo n).go i H ∧ ∃ N : L2.St → Hp → Prop, (∀ σ' H', N σ' H' → ∃ m', m' < m ∧ W (i + 1) m' σ' H') ∧ ∀ x H', (Itr lo n).yld i H x H' → g x σ H' fun σ2 H2 => B N σ2 H2) := by
  refine ⟨fun i m σ H => m = n - i ∧ i ≤ n ∧ Pv i σ H, ⟨n, by simp, Nat.zero_le _, h0⟩, ?_⟩
  rintro i m σ H ⟨rfl, hi, p⟩
  by_cases hlt : i < n
  · refine .inr ⟨hlt, Pv (i + 1), fun σ' H' p' => ⟨n - (i + 1), by omega, rfl, hlt, p'⟩, fun x H' y => ?_⟩
    obtain ⟨e, y⟩ := y
    subst e y
    exact hs i σ _ hlt p
  · have e : i = n := by omega
    subst e
    exact .inl ⟨Nat.le_refl _, hd σ H p⟩
end
end My
namespace My
open PySem PySem.Spec PyProof.Rows L2
structure Fn (K : PySem.W.Frag) (mg : Str → Option Value) (x : Str) (st : Stmt) : Prop where
  ex : ∃ (f : Addr) (fd : FuncData), Fun K x x st f fd ∧ mg x = some (.ref f)
section
variable {P : Program} {w : World} {K : PySem.W.Frag} {mg : Str → Option Value} {base : Heap}
theorem Knows.mk' {x : Str} {st : Stmt} {N ps : List Str} {k : Nat} {sp : Sp} (D : Fn K mg x st) (S : FnScope N ps (defScope st))
    (hb : ∀ (kV doc pm : Value) (an : Option Addr) (cdv ct : Value) (us : List Value), us.length = ps.length → bindArgs (PySem.W.fnOf x x (defArgs st) (defBody st) (defScope st) .none kV doc pm an cdv ct) ⟨us, []⟩ = pure (ps.zip us))
    (len : ∀ vs H Q E, sp vs H Q E → vs.length = ps.length)
    (hbody : ∀ (f : Addr) (cdv : Value) (A : Around) (outer : List Env) (s : Shared) (H : Hp) (vs : List V) (Q : VK) (E : XK), Room k (A.deeper (envOfC x (defScope st) s.heap.objs.size f cdv)) → sp vs H Q E →
      ∃ t, PSs (cxOf (L2.CX P w) P w K mg base N x (defScope st) f cdv A outer s H E) (defBody st) t ∧ t { nx := fun _ H' => Q .non H', rt := Q } (start N vs) H) : Knows P w K mg base (k + 1) x ps sp := by
  obtain ⟨f, fd, F, g⟩ := D.ex
  exact ⟨f, fd, F.okX S len fun cdv A outer s H vs Q E hr h => hbody f cdv A outer s H vs Q E hr h, g, F.kp, F.binds hb⟩
theorem fnok_mk {x : Str} {st : Stmt} {f : Addr} {fd : FuncData} {N ps : List Str} {k : Nat} {sp : Sp} (F : Fun K x x st f fd) (S : FnScope N ps (defScope st)) (len : ∀ vs H Q E, sp vs H Q E → vs.length = ps.length)
    (hbody : ∀ (cdv : Value) (A : Around) (outer : List Env) (s : Shared) (H : Hp) (vs : List V) (Q : VK) (E : XK), Room k (A.deeper (envOfC x (defScope st) s.heap.objs.size f cdv)) → sp vs H Q E →
      ∃ t, PSs (cxOf (L2.CX P w) P w K mg base N x (defScope st) f cdv A outer s H E) (defBody st) t ∧ t { nx := fun _ H' => Q .non H', rt := Q } (start N vs) H) : FnOk P w K mg base (L2.CX P w) (k + 1) f fd ps sp :=
  F.okX S len fun cdv A outer s H vs Q E hr h => hbody cdv A outer s H vs Q E hr h
theorem Knows.mono {x : Str} {ps : List Str} {j k : Nat} {sp : Sp} (c : Knows P w K mg base j x ps sp) (h : j ≤ k) : Knows P w K mg base k x ps sp := by
  obtain ⟨f, fd, F, a, b, d⟩ := c.ex
  exact ⟨f, fd, F.mono h, a, b, d⟩
end
theorem pe_powc {X : Cx} {a b v : Int} {j1 j2 : Nat} {p1 p2 pos : Pos} (h : CPow a b) (e : a ^ b.toNat = v) : PE X (.BinOp (.Constant (.int a) j1 p1) .Pow (.Constant (.int b) j2 p2) pos) (tC (.int v)) :=
  ⟨fun pins s σ H Q I q => (pe_op op_pow pe_int pe_int).run pins s σ H Q I ⟨a, b, rfl, rfl, h, (show Q (.int (a ^ b.toNat)) H from e ▸ q)⟩⟩
theorem cdivw {i j : Int} (h0 : 0 < j) (h : j < 2 ^ 200) : CDivW i j := wide_div (b := 200) h0 (by omega) (by decide) (by decide)
theorem pe_gl {X : Cx} {x : Str} {i : Int} {pos : Pos} (hm : ∃ t, X.mg x = some (.int i t)) (hg : Gl X x := by rfl) (hd : (x == ("__debug__" : Str)) = false := by decide) : PE X (.Name x pos) (tC (.int i)) := by
  obtain ⟨t, h⟩ := hm
  exact pe_glob hg h ⟨t, rfl⟩ hd
structure Ec where
  (BadWheel BadRule BadSeen BadGaps BadSpan BadLong NoGap NoSpan WrapError : Addr)
/-! ### equality of lists of ints -/
section
variable {K : PySem.W.Frag} {H : Hp} {a b : Addr} {Q : VK}
theorem dpAll_ints : ∀ ns : List Int, DpAll K H (ns.map V.int) (ns.map PyData.int)
  | [] => .nil
  | n :: r => .cons (.int n) (dpAll_ints r)
theorem dp_ints {ns : List Int} (h : SqL K H a (ns.map V.int)) : Dp K H (.ref a) (.list (ns.map PyData.int)) := .lst h (dpAll_ints ns)
theorem eqvAll_ints : ∀ ns ms : List Int, PyData.eqvAll (ns.map PyData.int) (ms.map PyData.int) = decide (ns = ms)
  | [], [] => rfl
  | [], _ :: _ => rfl
  | _ :: _, [] => rfl
  | x :: r, y :: t => by
    simp only [List.map_cons, PyData.eqvAll, PyData.eqv, eqvAll_ints r t]
    by_cases h : x = y <;> by_cases h' : r = t <;> simp [h, h']
theorem eqv_ints (ns ms : List Int) : PyData.eqv (.list (ns.map PyData.int)) (.list (ms.map PyData.int)) = decide (ns = ms) := by
  rw [PyData.eqv]
  exact eqvAll_ints ns ms
theorem g_eqInts {ns ms : List Int} (h1 : SqL K H a (ns.map V.int)) (h2 : SqL K H b (ms.map V.int)) (q : Q (.bl (decide (ns = ms))) H) : rEqD K (.ref a) (.ref b) H Q :=
  ⟨_, _, dp_ints h1, dp_ints h2, PySem.W.ke_shaped_ints _, PySem.W.ke_shaped_ints _, by rw [eqv_ints]; exact q⟩
theorem g_neInts {ns ms : List Int} (h1 : SqL K H a (ns.map V.int)) (h2 : SqL K H b (ms.map V.int)) (q : Q (.bl (!decide (ns = ms))) H) : rNeD K (.ref a) (.ref b) H Q :=
  ⟨_, _, dp_ints h1, dp_ints h2, PySem.W.ke_shaped_ints _, PySem.W.ke_shaped_ints _, by rw [eqv_ints]; exact q⟩
theorem g_sortedI {ns : List Int} (h : SqL K H a (ns.map V.int)) (q : ∀ (ns' : List Int) (p : Addr), ns'.Perm ns → ns'.Pairwise (· ≤ ·) → H p = none → Q (.ref p) (upd H p (.lst (ns'.map V.int)))) : rSortedI K [.ref a] H Q := ⟨a, ns, rfl, h, q⟩
end
theorem take_more {α : Type} : ∀ {l : List α} {i : Nat} {x : α}, l[i]? = some x → l.take (i + 1) = l.take i ++ [x]
  | [], i, x, h => by simp at h
  | a :: l, 0, x, h => by
    have e : a = x := Option.some.inj h
    subst e
    rfl
  | a :: l, i + 1, x, h => by
    have ih := take_more (l := l) (i := i) (x := x) h
    show a :: l.take (i + 1) = a :: l.take i ++ [x]
    rw [ih]
    rfl
/-- sorted and of the same items: one list -/
theorem sorted_same : ∀ {l m : List Int}, l.Perm m → l.Pairwise (· ≤ ·) → m.Pairwise (· ≤ ·) → l = m := fun {l m} p h1 h2 =>
  List.Perm.eq_of_pairwise (le := fun a b => a ≤ b) (fun a b _ _ h1 h2 => Int.le_antisymm h1 h2) h1 h2 p
def sp_law (K : PySem.W.Frag) : Sp := fun vs H Q _ => ∃ (s : Addr) (ns : List Int), vs = [.ref s] ∧ SqL K H s (ns.map V.int) ∧ ns.length ≤ 63 ∧ ∀ H', Q (.bl true) H'
theorem walk {l : PySem.W.OpenLaw} {k : Nat} {q : Program} {loose : List Str} {XP : (Str → Option Value) → Heap → Prop} {YP : World → Heap → Prop} {d : DefRec} {K : Params → PySem.W.Frag} (hn : l.most = some 63) (hdf : d.params.defaults = []) (hr : Room k callerA)
    (hY : ∀ (w : World) (h : Heap), YP w h → (K w.params).In h)
    (F : ∀ (w : World) (mg : Str → Option Value) (fa : Addr) (h : Heap), (K w.params).In h → h.Ns mainGlobals mg → mg d.name = some (.ref fa) →
      ∃ fd : FuncData, (∀ (s : Shared) (u : Value), BindsTo s fd ⟨[u], []⟩ [("_law_script", u)]) ∧ ∀ base : Heap, (K w.params).In base → base.Ns mainGlobals mg → FnOk l.prog w (K w.params) mg base (L2.CX l.prog w) k fa fd ["_law_script"] (sp_law (K w.params))) :
    PySem.W.WalkO q loose XP YP l.row.toRowW d [] (fun f vs => PySem.call f vs) :=
  L2.walk_of (n := 63) (k := k) (x := "_law_script") (CX := fun w => L2.CX l.prog w) (sp := fun w => sp_law (K w.params)) hn (by decide) hdf hr hY F (fun _ _ a ns hl _ hS => ⟨a, ns, rfl, hS, hl, fun _ => rfl⟩) fun _ _ _ _ _ h => by
    obtain ⟨_, _, _, _, _, _, _, _, _, _, _, _, z⟩ := h
    exact z
end My
local macro_rules | `(tactic| walk_at "go1") => `(tactic| first
  | with_reducible refine My.g_var0 ?_
  | with_reducible refine My.g_var1 ?_
  | with_reducible refine My.g_var2 ?_
  | with_reducible refine My.g_var3 ?_
  | with_reducible refine My.g_var4 ?_
  | with_reducible refine My.g_var5 ?_
  | with_reducible refine My.g_var6 ?_
  | with_reducible refine My.g_var7 ?_
  | with_reducible refine My.g_var8 ?_
  | with_reducible refine My.g_var9 ?_
  | with_reducible refine My.g_var10 ?_
  | with_reducible refine My.g_var11 ?_
  | with_reducible refine My.g_var12 ?_
  | with_reducible refine My.g_var13 ?_
  | with_reducible refine My.g_var14 ?_
  | with_reducible refine My.g_var15 ?_
  | with_reducible refine My.g_var16 ?_
  | with_reducible refine My.g_var17 ?_
  | with_reducible refine My.g_var18 ?_
  | with_reducible refine My.g_var19 ?_
  | with_reducible refine My.g_var20 ?_
  | with_reducible refine My.g_var21 ?_
  | with_reducible refine My.g_var22 ?_
  | with_reducible refine My.g_var23 ?_
  | with_reducible refine My.g_var24 ?_
  | with_reducible refine My.g_var25 ?_
  | with_reducible refine My.g_c ?_
  | with_reducible refine My.g_op ?_
  | with_reducible refine My.g_rI0 ?_
  | with_reducible refine My.g_test ?_
  | with_reducible refine My.g_tB ?_
  | with_reducible refine My.g_not ?_
  | with_reducible refine My.g_and ?_
  | with_reducible refine My.g_or ?_
  | with_reducible refine My.g_andV ?_
  | with_reducible refine My.g_orV ?_
  | with_reducible refine My.g_notV ?_
  | with_reducible refine My.g_if ?_
  | with_reducible refine My.g_chain ?_
  | with_reducible refine My.g_nil ?_
  | with_reducible refine My.g_cons ?_
  | with_reducible refine My.g_call ?_
  | with_reducible refine My.g_callB ?_
  | with_reducible refine My.g_lst ?_
  | with_reducible refine My.g_tup ?_
  | with_reducible refine My.g_seq ?_
  | with_reducible refine My.g_asg ?_
  | with_reducible refine My.g_name0 ?_
  | with_reducible refine My.g_name1 ?_
  | with_reducible refine My.g_name2 ?_
  | with_reducible refine My.g_name3 ?_
  | with_reducible refine My.g_name4 ?_
  | with_reducible refine My.g_name5 ?_
  | with_reducible refine My.g_name6 ?_
  | with_reducible refine My.g_name7 ?_
  | with_reducible refine My.g_name8 ?_
  | with_reducible refine My.g_name9 ?_
  | with_reducible refine My.g_name10 ?_
  | with_reducible refine My.g_name11 ?_
  | with_reducible refine My.g_name12 ?_
  | with_reducible refine My.g_name13 ?_
  | with_reducible refine My.g_name14 ?_
  | with_reducible refine My.g_name15 ?_
  | with_reducible refine My.g_name16 ?_
  | with_reducible refine My.g_name17 ?_
  | with_reducible refine My.g_name18 ?_
  | with_reducible refine My.g_name19 ?_
  | with_reducible refine My.g_name20 ?_
  | with_reducible refine My.g_name21 ?_
  | with_reducible refine My.g_name22 ?_
  | with_reducible refine My.g_name23 ?_
  | with_reducible refine My.g_name24 ?_
  | with_reducible refine My.g_name25 ?_
  | with_reducible refine L2.iteT ?_
  | with_reducible refine L2.iteF ?_
  | with_reducible refine My.g_ret ?_
  | with_reducible refine My.g_retN ?_
  | with_reducible refine My.g_drop ?_
  | with_reducible refine My.g_next ?_
  | with_reducible refine My.g_un ?_
  | with_reducible refine My.g_sub ?_
  | with_reducible refine My.g_for ?_
  | with_reducible refine My.g_lc ?_
  | with_reducible refine My.g_iL ?_
  | with_reducible refine My.g_iT ?_
  | with_reducible refine My.g_iR1 ?_
  | with_reducible refine My.g_iR2 ?_
  | with_reducible refine My.g_iE ?_
  | with_reducible refine My.g_bm ?_
  | with_reducible refine My.g_yes ?_
  | with_reducible refine My.g_isN ?_
  | with_reducible refine My.g_notN ?_
  | with_reducible refine My.g_min2 ?_
  | with_reducible refine My.g_max2 ?_
  | with_reducible refine My.g_abs ?_
  | with_reducible refine My.g_intI ?_
  | with_reducible refine My.g_intB ?_
  | ((with_reducible refine' My.g_sz ?gz ?_); (case gz => simp))
  | with_reducible refine My.g_rU ?_
  | ((with_reducible refine' My.g_rI ?gi ?_); (case gi => first
      | (show (0 : Int) < _; first | assumption | decide | omega)
      | exact My.cdivw (by omega) (by omega)
      | exact (show L2.CMul _ _ from Or.inl ⟨by omega, by omega⟩)
      | exact (show L2.CMul _ _ from Or.inr ⟨by omega, by omega⟩)))
  | ((with_reducible refine' My.g_eq ?ge ?_); (case ge => rfl))
  | ((with_reducible refine' My.g_ne ?ge ?_); (case ge => rfl))
  | with_reducible refine Exists.intro _ (And.intro rfl ?_))
local macro_rules | `(tactic| walk_at "go") => `(tactic| repeat (first | walk_at "go1" | with_reducible refine My.g_ifS ?_ | dsimp only))
local macro_rules | `(tactic| walk_at "goS") => `(tactic| repeat (first | walk_at "go1" | dsimp only))
local macro_rules | `(tactic| walk_at "dr") => `(tactic| first
  | assumption
  | exact My.Go.dr (by assumption)
  | (refine My.Dr.same ?_ (My.Same.new (by assumption)); walk_at "dr")
  | (refine My.Dr.same ?_ (by assumption); walk_at "dr")
  | (refine My.Dr.mut (by assumption) ?_ (by assumption); walk_at "dr"))
local macro_rules | `(tactic| walk_at "ne") => `(tactic| first
  | assumption
  | exact My.Dr.ne2 (by assumption) (by walk_at "dr")
  | exact Ne.symm (My.Dr.ne2 (by assumption) (by walk_at "dr"))
  | exact L2.ne_of_none (by walk_at "hp") (by assumption)
  | exact Ne.symm (L2.ne_of_none (by walk_at "hp") (by assumption)))
local macro_rules | `(tactic| walk_at "hp") => `(tactic| first
  | assumption
  | exact L2.upd_same
  | (refine My.upd_old ?_ (by assumption); walk_at "hp")
  | (refine My.Same.at (by assumption) ?_; walk_at "hp")
  | (refine My.Go.at (by assumption) ?_ ?_; ((walk_at "hp")); walk_at "ne"))
local macro_rules | `(tactic| walk_at "wp") => `(tactic| try simp only [List.map_cons, List.map_nil, L2.wipe, List.set_cons_succ, List.set_cons_zero])
namespace My
open PySem PySem.Spec PyProof.Rows L2
/-! ### promises: wheels -/
abbrev Wh (n : Int) : Prop := 2 ≤ n ∧ n ≤ 1000000000000
abbrev Se (n i : Int) : Prop := 0 ≤ i ∧ i < n
def sp_is_wheel : Sp := fun vs H Q _ => ∃ n : Int, vs = [.int n] ∧ Q (.bl (decide (Wh n))) H
def sp_need_wheel (ec : Ec) : Sp := fun vs H Q E => ∃ n : Int, vs = [.int n] ∧ (Wh n → Q .non H) ∧ (¬ Wh n → E (.ref ec.BadWheel) none H)
def sp_need_seen (ec : Ec) : Sp := fun vs H Q E => ∃ n i : Int, vs = [.int n, .int i] ∧ (Se n i → Q .non H) ∧ (¬ Se n i → E (.ref ec.BadSeen) none H)
def sp_since_of : Sp := fun vs H Q _ => ∃ n i j : Int, vs = [.int n, .int i, .int j] ∧ 0 < n ∧ Q (.int ((j - i) % n)) H
end My
namespace My
open PySem PySem.Spec PyProof.Rows L2
/-! ### promises: drawing -/
/-- how many there are to draw from -/
abbrev Mn (n : Int) : Prop := 0 < n ∧ n < 2 ^ 150
def sp_drawn (K : PySem.W.Frag) : Sp := fun vs H Q _ => ∃ (a s : Addr) (n : Int), vs = [.ref a, .int n] ∧ Dr K a s H ∧ Mn n ∧ ∀ r H', 0 ≤ r → r < n → Go K a s H H' → Q (.int r) H'
def sp_start (K : PySem.W.Frag) : Sp := fun vs H Q _ => ∃ (s : Addr) (ns : List Int), vs = [.ref s] ∧ SqL K H s (ns.map V.int) ∧ ns.length ≤ 63 ∧ ∀ a H', H a = none → Same H H' → Dr K a s H' → Q (.ref a) H'
end My
namespace My
open PySem PySem.Spec PyProof.Rows L2
def sp_wheel (K : PySem.W.Frag) : Sp := fun vs H Q _ => ∃ (a s : Addr), vs = [.ref a] ∧ Dr K a s H ∧ ∀ r H', Wh r → Go K a s H H' → Q (.int r) H'
/-- one of a list of ints -/
theorem one_int {zs : List Int} {v : V} (h : v ∈ zs.map V.int) : ∃ z, v = .int z ∧ z ∈ zs := by
  obtain ⟨z, h1, h2⟩ := List.mem_map.mp h
  exact ⟨z, h2.symm, h1⟩
end My
namespace My
open PySem PySem.Spec PyProof.Rows L2
def top (i : Nat) : Stmt := PySem.Challenge.pw_wraptime_k12_whole_never_missed.main.body.getD i (.Pass ⟨0, 0, 0, 0⟩)
abbrev s_is_wheel : Stmt := top 8
abbrev s_need_wheel : Stmt := top 9
abbrev s_need_seen : Stmt := top 10
abbrev s_since_of : Stmt := top 11
abbrev s_need_long : Stmt := top 13
abbrev s_over : Stmt := top 14
abbrev s_first_over : Stmt := top 15
abbrev s_apart : Stmt := top 16
abbrev s__law_start : Stmt := top 18
abbrev s__law_drawn : Stmt := top 19
abbrev s__law_wheel : Stmt := top 20
abbrev s__law_rule : Stmt := top 21
abbrev s__law_time : Stmt := top 22
abbrev s__law_shown : Stmt := top 23
abbrev s__law_looks : Stmt := top 24
abbrev s_law : Stmt := top 25
structure Txt (K : PySem.W.Frag) (mg : Str → Option Value) (ec : Ec) : Prop where
  g_MOST_WHEEL : ∃ t, mg "MOST_WHEEL" = some (.int 1000000000000 t)
  ValueError : mg "ValueError" = none
  enumerate : mg "enumerate" = none
  range : mg "range" = none
  len : mg "len" = none
  sorted : mg "sorted" = none
  list : mg "list" = none
  min : mg "min" = none
  x_BadWheel : ExcAt K mg "BadWheel" ec.BadWheel
  x_BadSeen : ExcAt K mg "BadSeen" ec.BadSeen
  x_BadGaps : ExcAt K mg "BadGaps" ec.BadGaps
  x_BadLong : ExcAt K mg "BadLong" ec.BadLong
  x_WrapError : ExcAt K mg "WrapError" ec.WrapError

section
variable {P : Program} {w : World} {K : PySem.W.Frag} {mg : Str → Option Value} {base : Heap} {ec : Ec}
theorem sc_is_wheel : FnScope ["wheel"] ["wheel"] (defScope s_is_wheel) := ⟨rfl, rfl, rfl, by decide +kernel, rfl, by decide +kernel, by decide +kernel⟩
theorem ok_is_wheel (T : Txt K mg ec) (D : Fn K mg "is_wheel" s_is_wheel) : Knows P w K mg base 1 "is_wheel" ["wheel"] sp_is_wheel := by
  refine Knows.mk' D sc_is_wheel (fun _ _ _ _ _ _ us hl => match us, hl with | [_], _ => rfl) (fun vs H Q E h => ?_) (fun f cdv A outer s H vs Q E hr h => ?_)
  · obtain ⟨n, rfl, _⟩ := h; rfl
  · obtain ⟨n, rfl, k⟩ := h
    refine ⟨_, (pss_one (ps_ret (pe_chain op_le op_le pe_int (pv 0) (pe_gl T.g_MOST_WHEEL)))), ?_⟩
    refine g_start (σ := [some _]) rfl ?_
    try dsimp only [cxOf]
    walk_at "go"
    refine ite_dec (fun h1 => ?_) (fun h1 => ?_)
    · walk_at "go"
      rw [show decide (Wh n) = decide (n ≤ 1000000000000) from decide_eq_decide.mpr ⟨fun h => h.2, fun h => ⟨h1, h⟩⟩] at k
      exact k
    · rw [show decide (Wh n) = false from decide_eq_false fun h => h1 h.1] at k
      exact k
theorem sc_need_wheel : FnScope ["wheel"] ["wheel"] (defScope s_need_wheel) := ⟨rfl, rfl, rfl, by decide +kernel, rfl, by decide +kernel, by decide +kernel⟩
theorem ok_need_wheel (T : Txt K mg ec) (D : Fn K mg "need_wheel" s_need_wheel) (c_is_wheel : Knows P w K mg base 1 "is_wheel" ["wheel"] sp_is_wheel) : Knows P w K mg base 2 "need_wheel" ["wheel"] (sp_need_wheel ec) := by
  refine Knows.mk' D sc_need_wheel (fun _ _ _ _ _ _ us hl => match us, hl with | [_], _ => rfl) (fun vs H Q E h => ?_) (fun f cdv A outer s H vs Q E hr h => ?_)
  · obtain ⟨n, rfl, _⟩ := h; rfl
  · obtain ⟨n, rfl, k1, k2⟩ := h
    refine ⟨_, (pss_one (ps_if (pt_not (pt_val (pe_callN c_is_wheel (hr.mono (by decide)) passD (pa_cons (pv 0) pa_nil)) (by intro _; rfl))) (pss_one (ps_raiseN T.x_BadWheel)) pss_nil)), ?_⟩
    refine g_start (σ := [some _]) rfl ?_
    try dsimp only [cxOf]
    walk_at "go"
    refine ⟨n, rfl, ?_⟩
    walk_at "go"
    refine ite_ndec (fun h1 => ?_) (fun h1 => ?_)
    · exact k2 h1
    · walk_at "go"
      exact k1 h1
theorem sc_need_seen : FnScope ["wheel", "seen"] ["wheel", "seen"] (defScope s_need_seen) := ⟨rfl, rfl, rfl, by decide +kernel, rfl, by decide +kernel, by decide +kernel⟩
theorem ok_need_seen (T : Txt K mg ec) (D : Fn K mg "need_seen" s_need_seen) : Knows P w K mg base 1 "need_seen" ["wheel", "seen"] (sp_need_seen ec) := by
  refine Knows.mk' D sc_need_seen (fun _ _ _ _ _ _ us hl => match us, hl with | [_, _], _ => rfl) (fun vs H Q E h => ?_) (fun f cdv A outer s H vs Q E hr h => ?_)
  · obtain ⟨n, i, rfl, _⟩ := h; rfl
  · obtain ⟨n, i, rfl, k1, k2⟩ := h
    refine ⟨_, (pss_one (ps_if (pt_not (pt_chain op_le op_lt pe_int (pv 1) (pv 0))) (pss_one (ps_raiseN T.x_BadSeen)) pss_nil)), ?_⟩
    refine g_start (σ := [some _, some _]) rfl ?_
    try dsimp only [cxOf]
    walk_at "go"
    refine ite_dec (fun h1 => ?_) (fun h1 => ?_)
    · walk_at "go"
      refine ite_ndec (fun h2 => ?_) (fun h2 => ?_)
      · exact k2 fun h => h2 h.2
      · walk_at "go"
        exact k1 ⟨h1, h2⟩
    · walk_at "go"
      exact k2 fun h => h1 h.1
theorem sc_since_of : FnScope ["wheel", "one", "other"] ["wheel", "one", "other"] (defScope s_since_of) := ⟨rfl, rfl, rfl, by decide +kernel, rfl, by decide +kernel, by decide +kernel⟩
theorem ok_since_of (T : Txt K mg ec) (D : Fn K mg "since_of" s_since_of) : Knows P w K mg base 1 "since_of" ["wheel", "one", "other"] sp_since_of := by
  refine Knows.mk' D sc_since_of (fun _ _ _ _ _ _ us hl => match us, hl with | [_, _, _], _ => rfl) (fun vs H Q E h => ?_) (fun f cdv A outer s H vs Q E hr h => ?_)
  · obtain ⟨n, i, j, rfl, _⟩ := h; rfl
  · obtain ⟨n, i, j, rfl, h0, k⟩ := h
    refine ⟨_, (pss_one (ps_ret (pe_op op_mod (pe_op op_sub (pv 2) (pv 1)) (pv 0)))), ?_⟩
    refine g_start (σ := [some _, some _, some _]) rfl ?_
    try dsimp only [cxOf]
    walk_at "go"
    exact k
theorem sc__law_start : FnScope ["_law_script", "_law_mixed", "_law_cell"] ["_law_script"] (defScope s__law_start) := ⟨rfl, rfl, rfl, by decide +kernel, rfl, by decide +kernel, by decide +kernel⟩
theorem ok_start (T : Txt K mg ec) (D : Fn K mg "_law_start" s__law_start) : Knows P w K mg base 1 "_law_start" ["_law_script"] (sp_start K) := by
  refine Knows.mk' D sc__law_start (fun _ _ _ _ _ _ us hl => match us, hl with | [_], _ => rfl) (fun vs H Q E h => ?_) (fun f cdv A outer s H vs Q E hr h => ?_)
  · obtain ⟨s, ns, rfl, _⟩ := h; rfl
  · obtain ⟨s, ns, rfl, hS, hl, k⟩ := h
    refine ⟨_, (pss_cons (ps_set (i := 1) sc__law_start.nd rfl (Or.inl rfl) pe_int)
    (pss_cons (ps_for passO rfl (pi_list (pv 0)) (pg_name (i := 2) sc__law_start.nd rfl (Or.inl rfl)) (pss_one (ps_set (i := 1) sc__law_start.nd rfl (Or.inl rfl) (pe_op op_mod (pe_op op_add (pe_op op_add (pe_op op_mul (pv 1) pe_int) (pv 2)) pe_int) pe_int))))
    (pss_one (ps_ret (pe_lst (pa_cons (pv 0) (pa_cons pe_int (pa_cons (pv 1) (pa_cons pe_int pa_nil))))))))), ?_⟩
    refine g_start (σ := [some _, none, none]) rfl ?_
    try dsimp only [cxOf]
    walk_at "go"
    refine ⟨⟨_, hS⟩, for_L (K := K) (a := s) (xs := ns.map V.int) (fun i σ H' => H' = H ∧ ∃ (m : Int) (c : Option V), σ = [some (.ref s), some (.int m), c]) ⟨rfl, 1, none, rfl⟩ (fun i σ H' _ h => h.1 ▸ hS) ?_ ?_⟩
    · rintro i y σ H' hi ⟨rfl, m, c, rfl⟩
      obtain ⟨z, hz, _⟩ := int_at hi
      subst hz
      walk_at "go"
      exact ⟨rfl, _, _, rfl⟩
    · rintro σ H' ⟨rfl, m, c, rfl⟩
      walk_at "go"
      intro p hp
      exact k p _ hp (Same.new hp) ⟨ns, 0, m, 0, upd_same, fun o => by rw [upd_upd]; exact (Same.new hp).seq hS, hl, Int.le_refl 0⟩
theorem sc__law_drawn : FnScope ["_law_state", "_law_many", "_law_found", "_law_cell"] ["_law_state", "_law_many"] (defScope s__law_drawn) := ⟨rfl, rfl, rfl, by decide +kernel, rfl, by decide +kernel, by decide +kernel⟩
theorem ok_drawn (T : Txt K mg ec) (D : Fn K mg "_law_drawn" s__law_drawn) : Knows P w K mg base 1 "_law_drawn" ["_law_state", "_law_many"] (sp_drawn K) := by
  refine Knows.mk' D sc__law_drawn (fun _ _ _ _ _ _ us hl => match us, hl with | [_, _], _ => rfl) (fun vs H Q E h => ?_) (fun f cdv A outer s H vs Q E hr h => ?_)
  · obtain ⟨a, sc, n, rfl, _⟩ := h; rfl
  · obtain ⟨a, sc, n, rfl, hD, ⟨hn0, hn1⟩, k⟩ := h
    refine ⟨_, (pss_cons (ps_if (pt_cmpR op_gt (pe_ix ix_list (pv 0) pe_int (fun _ _ => rfl)) pe_int (nomark _)) (pss_cons (ps_set (i := 2) sc__law_drawn.nd rfl (Or.inl rfl) (pe_op op_mod (pe_ix ix_list (pv 0) pe_int (fun _ _ => rfl)) (pv 1)))
    (pss_cons (ps_asg (pe_op op_fdivW (pe_ix ix_list (pv 0) pe_int (fun _ _ => rfl)) (pv 1)) (pg_sub (pv 0) pe_int set_list))
    (pss_one (ps_ret (pv 2))))) pss_nil)
    (pss_cons (ps_asg (pe_op op_add (pe_ix ix_list (pv 0) pe_int (fun _ _ => rfl)) pe_int) (pg_sub (pv 0) pe_int set_list))
    (pss_cons (ps_if (pt_cmpR op_le (pe_ix ix_list (pv 0) pe_int (fun _ _ => rfl)) (pe_callB call_lenN (by rfl) T.len PySem.boot_len (pa_cons (pe_ix ix_list (pv 0) pe_int (fun _ _ => rfl)) pa_nil)) (nomark _)) (pss_cons (ps_set (i := 3) sc__law_drawn.nd rfl (Or.inl rfl) (pe_ix ix_list (pe_ix ix_list (pv 0) pe_int (fun _ _ => rfl)) (pe_op op_sub (pe_ix ix_list (pv 0) pe_int (fun _ _ => rfl)) pe_int) (fun _ _ => rfl)))
    (pss_cons (ps_asg (pe_ifExp (pt_cmpR op_ge (pv 3) (pe_powc (v := 1000000000000000000) ⟨by decide, by decide, by decide⟩ (by decide)) (nomark _)) (pe_op op_fdivW (pv 3) (pv 1)) pe_int) (pg_sub (pv 0) pe_int set_list))
    (pss_one (ps_ret (pe_op op_mod (pv 3) (pv 1)))))) pss_nil)
    (pss_cons (ps_asg (pe_op op_mod (pe_op op_add (pe_op op_mul (pe_ix ix_list (pv 0) pe_int (fun _ _ => rfl)) pe_int) pe_int) pe_int) (pg_sub (pv 0) pe_int set_list))
    (pss_one (ps_ret (pe_op op_mod (pe_op op_fdivW (pe_ix ix_list (pv 0) pe_int (fun _ _ => rfl)) pe_int) (pv 1)))))))), ?_⟩
    refine g_start (σ := [some _, some _, none, none]) rfl ?_
    try dsimp only [cxOf]
    obtain ⟨ns, i, m, l, ha, hS, hl, hi⟩ := hD.ex
    have fin : ∀ i' m' l' : Int, 0 ≤ i' → Go K a sc H (upd H a (.lst [.ref sc, .int i', .int m', .int l'])) := fun i' m' l' h =>
      ⟨⟨ns, i', m', l', upd_same, fun o => by rw [upd_upd]; exact hS o, hl, h⟩, Kp.upd⟩
    walk_at "go"
    refine g_ixL (SqL.of ha) rfl ?_
    walk_at "go"
    refine ite_dec (fun h1 => ?_) (fun h1 => ?_)
    · walk_at "go"
      refine g_ixL (SqL.of ha) rfl ?_
      walk_at "go"
      refine g_ixL (SqL.of ha) rfl ?_
      walk_at "go"
      refine g_set43 ha ?_
      walk_at "go"
      exact k _ _ (Int.emod_nonneg _ (by omega)) (Int.emod_lt_of_pos _ hn0) (fin _ _ _ hi)
    · walk_at "go"
      refine g_ixL (SqL.of ha) rfl ?_
      walk_at "go"
      refine g_set41 ha ?_
      walk_at "go"
      refine g_ixL (SqL.of upd_same) rfl ?_
      walk_at "go"
      refine g_ixL (SqL.of upd_same) rfl ?_
      walk_at "go"
      refine g_lenL (hS _) ?_
      walk_at "go"
      rw [List.length_map]
      refine ite_dec (fun h2 => ?_) (fun h2 => ?_)
      · walk_at "go"
        refine g_ixL (SqL.of upd_same) rfl ?_
        walk_at "go"
        refine g_ixL (SqL.of upd_same) rfl ?_
        walk_at "go"
        refine g_ixAny (hS _) (by omega) (by rw [List.length_map]; omega) (fun v hv => ?_)
        obtain ⟨c, _, rfl⟩ := List.mem_map.mp hv
        walk_at "go"
        refine ite_dec (fun h3 => ?_) (fun h3 => ?_)
        · walk_at "go"
          refine g_set43 upd_same ?_
          rw [upd_upd]
          walk_at "go"
          exact k _ _ (Int.emod_nonneg _ (by omega)) (Int.emod_lt_of_pos _ hn0) (fin _ _ _ (by omega))
        · walk_at "go"
          refine g_set43 upd_same ?_
          rw [upd_upd]
          walk_at "go"
          exact k _ _ (Int.emod_nonneg _ (by omega)) (Int.emod_lt_of_pos _ hn0) (fin _ _ _ (by omega))
      · walk_at "go"
        refine g_ixL (SqL.of upd_same) rfl ?_
        walk_at "go"
        refine g_set42 upd_same ?_
        rw [upd_upd]
        walk_at "go"
        refine g_ixL (SqL.of upd_same) rfl ?_
        walk_at "go"
        exact k _ _ (Int.emod_nonneg _ (by omega)) (Int.emod_lt_of_pos _ hn0) (fin _ _ _ (by omega))
theorem sc__law_wheel : FnScope ["_law_state", "_law_wide"] ["_law_state"] (defScope s__law_wheel) := ⟨rfl, rfl, rfl, by decide +kernel, rfl, by decide +kernel, by decide +kernel⟩
theorem ok_wheel (T : Txt K mg ec) (D : Fn K mg "_law_wheel" s__law_wheel) (c__law_drawn : Knows P w K mg base 1 "_law_drawn" ["_law_state", "_law_many"] (sp_drawn K)) : Knows P w K mg base 2 "_law_wheel" ["_law_state"] (sp_wheel K) := by
  refine Knows.mk' D sc__law_wheel (fun _ _ _ _ _ _ us hl => match us, hl with | [_], _ => rfl) (fun vs H Q E h => ?_) (fun f cdv A outer s H vs Q E hr h => ?_)
  · obtain ⟨a, sc, rfl, _⟩ := h; rfl
  · obtain ⟨a, sc, rfl, hD, k⟩ := h
    refine ⟨_, (pss_cons (ps_set (i := 1) sc__law_wheel.nd rfl (Or.inl rfl) (pe_ix ix_list (pe_lst (pa_cons pe_int (pa_cons pe_int (pa_cons (pe_op op_sub (pe_powc (v := 1000000000000) ⟨by decide, by decide, by decide⟩ (by decide)) pe_int) pa_nil)))) (pe_callN c__law_drawn (hr.mono (by decide)) passD (pa_cons (pv 0) (pa_cons pe_int pa_nil))) (fun _ _ => rfl)))
    (pss_cons (ps_if (pt_cmpR op_eq (pe_callN c__law_drawn (hr.mono (by decide)) passD (pa_cons (pv 0) (pa_cons pe_int pa_nil))) pe_int (nomark _)) (pss_one (ps_ret (pe_ix ix_list (pe_lst (pa_cons pe_int (pa_cons pe_int (pa_cons pe_int (pa_cons pe_int (pa_cons pe_int (pa_cons (pe_powc (v := 65536) ⟨by decide, by decide, by decide⟩ (by decide)) (pa_cons (pe_powc (v := 4294967296) ⟨by decide, by decide, by decide⟩ (by decide)) (pa_cons (pe_powc (v := 549755813888) ⟨by decide, by decide, by decide⟩ (by decide)) pa_nil))))))))) (pe_callN c__law_drawn (hr.mono (by decide)) passD (pa_cons (pv 0) (pa_cons pe_int pa_nil))) (fun _ _ => rfl)))) pss_nil)
    (pss_one (ps_ret (pe_op op_add pe_int (pe_callN c__law_drawn (hr.mono (by decide)) passD (pa_cons (pv 0) (pa_cons (pv 1) pa_nil)))))))), ?_⟩
    refine g_start (σ := [some _, none]) rfl ?_
    try dsimp only [cxOf]
    walk_at "go"
    intro p hp
    walk_at "go"
    refine ⟨a, sc, 3, rfl, (by walk_at "dr"), (by decide), fun r1 H1 h0 h1 g1 => ?_⟩
    have hne : p ≠ a := by walk_at "ne"
    refine g_ixAny (SqL.of (by walk_at "hp")) h0 (by simpa using h1) (fun v hv => ?_)
    obtain ⟨z, rfl, hz⟩ := one_int (zs := [6, 60, 1000000000000 - 1]) hv
    have hz2 : 6 ≤ z ∧ z ≤ 999999999999 := by
      simp only [List.mem_cons, List.not_mem_nil, or_false] at hz
      omega
    have g1' := g1.new hp
    walk_at "go"
    refine ⟨a, sc, 4, rfl, (by walk_at "dr"), (by decide), fun r2 H2 h0 h1 g2 => ?_⟩
    walk_at "go"
    refine ite_dec (fun h2 => ?_) (fun h2 => ?_)
    · walk_at "go"
      intro q hq
      walk_at "go"
      refine ⟨a, sc, 8, rfl, (by walk_at "dr"), (by decide), fun r3 H3 h0 h1 g3 => ?_⟩
      have hne : q ≠ a := by walk_at "ne"
      refine g_ixAny (SqL.of (by walk_at "hp")) h0 (by simpa using h1) (fun v hv => ?_)
      obtain ⟨z, rfl, hz⟩ := one_int (zs := [2, 4, 8, 64, 256, 65536, 4294967296, 549755813888]) hv
      simp only [List.mem_cons, List.not_mem_nil, or_false] at hz
      exact k _ _ (by show 2 ≤ z ∧ z ≤ 1000000000000; omega) ((g1'.trans g2).trans (g3.new hq))
    · walk_at "go"
      refine ⟨a, sc, z, rfl, (by walk_at "dr"), (by omega), fun r3 H3 h0 h1 g3 => ?_⟩
      walk_at "go"
      exact k _ _ (by show 2 ≤ 2 + r3 ∧ 2 + r3 ≤ 1000000000000; omega) ((g1'.trans g2).trans g3)
end
end My
namespace My
open PySem PySem.Spec PyProof.Rows L2
/-! ### promises: timers -/
def sp_need_long (ec : Ec) : Sp := fun vs H Q E => ∃ n l : Int, vs = [.int n, .int l] ∧ (Wh n → Se n l → Q .non H) ∧ (¬ Wh n → E (.ref ec.BadWheel) none H) ∧ (Wh n → ¬ Se n l → E (.ref ec.BadLong) none H)
def sp_over (ec : Ec) : Sp := fun vs H Q E => ∃ n l b t : Int, vs = [.int n, .int l, .int b, .int t] ∧ (Wh n → Se n l → Se n b → Se n t → Q (.bl (decide (l ≤ (t - b) % n))) H) ∧
  (¬ Wh n → E (.ref ec.BadWheel) none H) ∧ (Wh n → ¬ Se n l → E (.ref ec.BadLong) none H) ∧ (Wh n → Se n l → ¬ (Se n b ∧ Se n t) → E (.ref ec.BadSeen) none H)
def sp_apart (ec : Ec) : Sp := fun vs H Q E => ∃ n l : Int, vs = [.int n, .int l] ∧ (Wh n → Se n l → Q (.int (n - l)) H) ∧ (¬ Wh n → E (.ref ec.BadWheel) none H) ∧ (Wh n → ¬ Se n l → E (.ref ec.BadLong) none H)
/-- the first look at which a timer is told over -/
def firstO (n l : Int) (ns : List Int) : Option Nat := ns.findIdx? fun x => decide (l ≤ x % n)
def onV : Option Nat → V
  | some i => .int (i : Nat)
  | none => .non
def Looks (ns : List Int) : Prop := (∀ x ∈ ns, 0 ≤ x) ∧ ns.Pairwise (· ≤ ·)
def sp_first_over (K : PySem.W.Frag) (ec : Ec) : Sp := fun vs H Q E => ∃ (n l : Int) (a : Addr) (ns : List Int), vs = [.int n, .int l, .ref a] ∧ SqL K H a (ns.map V.int) ∧ ns.length ≤ 100000 ∧
  (Wh n → Se n l → Looks ns → ∀ H', Same H H' → Q (onV (firstO n l ns)) H') ∧
  (¬ Wh n → E (.ref ec.BadWheel) none H) ∧ (Wh n → ¬ Se n l → E (.ref ec.BadLong) none H) ∧ (Wh n → Se n l → ¬ Looks ns → ∀ H', Same H H' → E (.ref ec.BadGaps) none H')
end My
namespace My
open PySem PySem.Spec PyProof.Rows L2
section
variable {P : Program} {w : World} {K : PySem.W.Frag} {mg : Str → Option Value} {base : Heap} {ec : Ec}
theorem sc_need_long : FnScope ["wheel", "long"] ["wheel", "long"] (defScope s_need_long) := ⟨rfl, rfl, rfl, by decide +kernel, rfl, by decide +kernel, by decide +kernel⟩
theorem ok_need_long (T : Txt K mg ec) (D : Fn K mg "need_long" s_need_long) (c_need_wheel : Knows P w K mg base 2 "need_wheel" ["wheel"] (sp_need_wheel ec)) : Knows P w K mg base 3 "need_long" ["wheel", "long"] (sp_need_long ec) := by
  refine Knows.mk' D sc_need_long (fun _ _ _ _ _ _ us hl => match us, hl with | [_, _], _ => rfl) (fun vs H Q E h => ?_) (fun f cdv A outer s H vs Q E hr h => ?_)
  · obtain ⟨n, l, rfl, _⟩ := h; rfl
  · obtain ⟨n, l, rfl, k1, k2, k3⟩ := h
    refine ⟨_, (pss_cons (ps_expr (pe_callN c_need_wheel (hr.mono (by decide)) passD (pa_cons (pv 0) pa_nil)))
    (pss_one (ps_if (pt_not (pt_chain op_le op_lt pe_int (pv 1) (pv 0))) (pss_one (ps_raiseN T.x_BadLong)) pss_nil))), ?_⟩
    refine g_start (σ := [some _, some _]) rfl ?_
    try dsimp only [cxOf]
    walk_at "go"
    refine ⟨n, rfl, fun hw => ?_, k2⟩
    walk_at "go"
    refine ite_dec (fun h1 => ?_) (fun h1 => ?_)
    · walk_at "go"
      refine ite_ndec (fun h2 => ?_) (fun h2 => ?_)
      · exact k3 hw fun h => h2 h.2
      · walk_at "go"
        exact k1 hw ⟨h1, h2⟩
    · walk_at "go"
      exact k3 hw fun h => h1 h.1
theorem sc_over : FnScope ["wheel", "long", "begun", "now"] ["wheel", "long", "begun", "now"] (defScope s_over) := ⟨rfl, rfl, rfl, by decide +kernel, rfl, by decide +kernel, by decide +kernel⟩
theorem ok_over (T : Txt K mg ec) (D : Fn K mg "over" s_over) (c_need_long : Knows P w K mg base 3 "need_long" ["wheel", "long"] (sp_need_long ec)) (c_need_seen : Knows P w K mg base 1 "need_seen" ["wheel", "seen"] (sp_need_seen ec))
    (c_since_of : Knows P w K mg base 1 "since_of" ["wheel", "one", "other"] sp_since_of) : Knows P w K mg base 4 "over" ["wheel", "long", "begun", "now"] (sp_over ec) := by
  refine Knows.mk' D sc_over (fun _ _ _ _ _ _ us hl => match us, hl with | [_, _, _, _], _ => rfl) (fun vs H Q E h => ?_) (fun f cdv A outer s H vs Q E hr h => ?_)
  · obtain ⟨n, l, b, t, rfl, _⟩ := h; rfl
  · obtain ⟨n, l, b, t, rfl, k1, k2, k3, k4⟩ := h
    refine ⟨_, (pss_cons (ps_expr (pe_callN c_need_long (hr.mono (by decide)) passD (pa_cons (pv 0) (pa_cons (pv 1) pa_nil))))
    (pss_cons (ps_expr (pe_callN c_need_seen (hr.mono (by decide)) passD (pa_cons (pv 0) (pa_cons (pv 2) pa_nil))))
    (pss_cons (ps_expr (pe_callN c_need_seen (hr.mono (by decide)) passD (pa_cons (pv 0) (pa_cons (pv 3) pa_nil))))
    (pss_one (ps_ret (pe_cmpR op_ge (pe_callN c_since_of (hr.mono (by decide)) passD (pa_cons (pv 0) (pa_cons (pv 2) (pa_cons (pv 3) pa_nil)))) (pv 1) (nomark _))))))), ?_⟩
    refine g_start (σ := [some _, some _, some _, some _]) rfl ?_
    try dsimp only [cxOf]
    walk_at "go"
    refine ⟨n, l, rfl, fun hw hl => ?_, k2, k3⟩
    walk_at "go"
    refine ⟨n, b, rfl, fun hb => ?_, fun hb => k4 hw hl fun z => hb z.1⟩
    walk_at "go"
    refine ⟨n, t, rfl, fun ht => ?_, fun ht => k4 hw hl fun z => ht z.2⟩
    walk_at "go"
    refine ⟨n, b, t, rfl, by have := hw.1; omega, ?_⟩
    walk_at "go"
    exact k1 hw hl hb ht
theorem sc_apart : FnScope ["wheel", "long"] ["wheel", "long"] (defScope s_apart) := ⟨rfl, rfl, rfl, by decide +kernel, rfl, by decide +kernel, by decide +kernel⟩
theorem ok_apart (T : Txt K mg ec) (D : Fn K mg "apart" s_apart) (c_need_long : Knows P w K mg base 3 "need_long" ["wheel", "long"] (sp_need_long ec)) : Knows P w K mg base 4 "apart" ["wheel", "long"] (sp_apart ec) := by
  refine Knows.mk' D sc_apart (fun _ _ _ _ _ _ us hl => match us, hl with | [_, _], _ => rfl) (fun vs H Q E h => ?_) (fun f cdv A outer s H vs Q E hr h => ?_)
  · obtain ⟨n, l, rfl, _⟩ := h; rfl
  · obtain ⟨n, l, rfl, k1, k2, k3⟩ := h
    refine ⟨_, (pss_cons (ps_expr (pe_callN c_need_long (hr.mono (by decide)) passD (pa_cons (pv 0) (pa_cons (pv 1) pa_nil))))
    (pss_one (ps_ret (pe_op op_sub (pv 0) (pv 1))))), ?_⟩
    refine g_start (σ := [some _, some _]) rfl ?_
    try dsimp only [cxOf]
    walk_at "go"
    refine ⟨n, l, rfl, fun hw hl => ?_, k2, k3⟩
    walk_at "go"
    exact k1 hw hl
theorem sc_first_over : FnScope ["wheel", "long", "looks", "number", "look"] ["wheel", "long", "looks"] (defScope s_first_over) := ⟨rfl, rfl, rfl, by decide +kernel, rfl, by decide +kernel, by decide +kernel⟩
theorem ok_first_over (T : Txt K mg ec) (D : Fn K mg "first_over" s_first_over) (c_need_long : Knows P w K mg base 3 "need_long" ["wheel", "long"] (sp_need_long ec)) : Knows P w K mg base 4 "first_over" ["wheel", "long", "looks"] (sp_first_over K ec) := by
  refine Knows.mk' D sc_first_over (fun _ _ _ _ _ _ us hl => match us, hl with | [_, _, _], _ => rfl) (fun vs H Q E h => ?_) (fun f cdv A outer s H vs Q E hr h => ?_)
  · obtain ⟨n, l, a, ns, rfl, _⟩ := h; rfl
  · obtain ⟨n, l, a, ns, rfl, hS, hz, k1, k2, k3, k4⟩ := h
    refine ⟨_, (pss_cons (ps_expr (pe_callN c_need_long (hr.mono (by decide)) passD (pa_cons (pv 0) (pa_cons (pv 1) pa_nil))))
    (pss_cons (ps_if (PW.pt (pw_or (pt_cmpR (op_neD hr.units) (pe_lc (own := [("look", 4)]) (g := gName 4) rfl sc_first_over.nd (pi_list (pv 2)) (blkOk_by (own := [("look", 4)]) (N := ["wheel", "long", "looks", "number", "look"]) (sc := defScope s_first_over) (by decide +kernel)) (fun _ _ _ _ _ => (pg_name (i := 4) sc_first_over.nd rfl (Or.inl rfl))) (fun _ _ _ _ _ => (pts_one (pt_cmpR op_lt (pv 4) pe_int (nomark _)))) (fun _ _ _ _ _ => (pv 4))) (pe_lst pa_nil) (nomark _)) (pw_or1 (pt_cmpR (op_neD hr.units) (pe_callB cr_sortedI (by rfl) T.sorted (by decide +kernel) (pa_cons (pv 2) pa_nil)) (pe_callTy call_listN (by rfl) T.list (by decide +kernel) (pa_cons (pv 2) pa_nil)) (nomark _))))) (pss_one (ps_raiseN T.x_BadGaps)) pss_nil)
    (pss_cons (ps_for passO rfl (pi_enum (by rfl) T.enumerate (pa_cons (pv 2) pa_nil)) (pg_tup (n := 2) rfl (pgs_cons (pg_name (i := 3) sc_first_over.nd rfl (Or.inl rfl)) (pgs_cons (pg_name (i := 4) sc_first_over.nd rfl (Or.inl rfl)) pgs_nil))) (pss_one (ps_if (pt_cmpR op_ge (pe_op op_mod (pv 4) (pv 0)) (pv 1) (nomark _)) (pss_one (ps_ret (pv 3))) pss_nil)))
    (pss_one (ps_ret pe_non))))), ?_⟩
    refine g_start (σ := [some _, some _, some _, none, none]) rfl ?_
    try dsimp only [cxOf]
    walk_at "go"
    refine ⟨n, l, rfl, fun hw hl => ?_, k2, k3⟩
    walk_at "go"
    refine ⟨⟨_, hS⟩, fun D hD => lc_L (K := K) (a := a) (xs := ns.map V.int) (fun i acc H' => acc = ((ns.take i).filter fun x => decide (x < 0)).map V.int ∧ Same H H') (fun i acc H' o h => ⟨h.1, Same.mut h.2 hD⟩) ⟨rfl, Same.refl H⟩ (fun i acc H' h => h.2.seq hS) ?_ ?_⟩
    · rintro i y acc H' hi ⟨ha, e⟩ hDl hlen
      obtain ⟨x, rfl, hx⟩ := int_at hi
      have hil : i < ns.length := (List.getElem?_eq_some_iff.mp hx).1
      walk_at "wp"
      walk_at "go"
      refine ⟨rfl, ?_⟩
      walk_at "go"
      refine ite_dec (fun h1 => ?_) (fun h1 => ?_)
      · walk_at "go"
        refine lc_leaf (fun i acc H' o h => ⟨h.1, Same.mut h.2 hD⟩) hDl hlen (by omega) ⟨?_, e⟩
        rw [take_more hx, List.filter_append, List.map_append, ← ha, List.filter_cons, if_pos (decide_eq_true h1)]
        rfl
      · refine lc_skip hDl hlen ⟨?_, e⟩
        rw [take_more hx, List.filter_append, List.map_append, ← ha, List.filter_cons, if_neg (by simpa using h1)]
        simp
    · rintro acc H1 ⟨ha, e1⟩ hDl
      rw [List.length_map, List.take_length] at ha
      subst ha
      walk_at "go"
      intro p hp
      refine g_neInts (ns := ns.filter fun x => decide (x < 0)) (ms := []) (SqL.of (by walk_at "hp")) (SqL.of upd_same) ?_
      walk_at "go"
      have e2 : Same H (upd H1 p (.lst [])) := e1.trans (Same.new hp)
      refine ite_ndec (fun h1 => ?_) (fun h1 => ?_)
      · refine iteT (k4 hw hl (fun z => h1 ?_) _ e2)
        exact List.filter_eq_nil_iff.mpr fun x hx => by simpa using z.1 x hx
      · have hnn : ∀ x ∈ ns, 0 ≤ x := fun x hx => by
          have := List.filter_eq_nil_iff.mp h1 x hx
          simpa using this
        walk_at "go"
        refine g_sortedI (e2.seq hS) fun ns' q hperm hsort hq => ?_
        walk_at "go"
        refine g_listL ((Same.new hq).seq (e2.seq hS)) fun q2 hq2 => ?_
        refine g_neInts (ns := ns') (ms := ns) (SqL.of (by walk_at "hp")) (SqL.of upd_same) ?_
        walk_at "go"
        have e3 : Same H (upd (upd (upd H1 p (.lst [])) q (.lst (ns'.map V.int))) q2 (.lst (ns.map V.int))) := (e2.trans (Same.new hq)).trans (Same.new hq2)
        refine ite_ndec (fun h2 => ?_) (fun h2 => ?_)
        · exact k4 hw hl (fun z => h2 (sorted_same hperm hsort z.2)) _ e3
        · walk_at "go"
          have hlooks : Looks ns := ⟨hnn, h2 ▸ hsort⟩
          refine ⟨a, ns.map V.int, rfl, e3.seq hS, for_E (K := K) (a := a) (xs := ns.map V.int) (fun i σ H' => (∃ u v, σ = [some (.int n), some (.int l), some (.ref a), u, v]) ∧ Same H H' ∧ ∀ j x, j < i → ns[j]? = some x → ¬ l ≤ x % n) ⟨⟨_, _, rfl⟩, e3, fun j x h => absurd h (Nat.not_lt_zero _)⟩ (fun i σ H' _ h => h.2.1.seq hS) ?_ ?_⟩
          · rintro i y σ H' T' hi ⟨⟨u, v, rfl⟩, e, hno⟩ hT
            obtain ⟨x, rfl, hx⟩ := int_at hi
            refine g_tup2 (SqT.of upd_same) ?_
            walk_at "go"
            have hn0 : 0 < n := by have := hw.1; omega
            refine ite_dec (fun h3 => ?_) (fun h3 => ?_)
            · walk_at "go"
              have e4 : firstO n l ns = some i := by
                unfold firstO
                rw [List.findIdx?_eq_some_iff_getElem]
                obtain ⟨hl1, hl2⟩ := List.getElem?_eq_some_iff.mp hx
                refine ⟨hl1, by rw [hl2]; exact decide_eq_true h3, fun j hj => ?_⟩
                have := hno j _ hj (List.getElem?_eq_getElem (by omega))
                simpa using this
              have k5 := k1 hw hl hlooks
              rw [e4] at k5
              exact k5 _ (e.trans (Same.new hT))
            · walk_at "go"
              refine ⟨⟨_, _, rfl⟩, e.trans (Same.new hT), fun j z hj hz => ?_⟩
              by_cases hji : j = i
              · subst hji
                rw [hx] at hz
                cases hz
                exact h3
              · exact hno j z (by omega) hz
          · rintro σ H' ⟨⟨u, v, rfl⟩, e, hno⟩
            walk_at "go"
            have e4 : firstO n l ns = none := by
              unfold firstO
              rw [List.findIdx?_eq_none_iff]
              intro x hx
              obtain ⟨j, hj⟩ := List.getElem?_of_mem hx
              have := hno j x (by rw [List.length_map]; exact (List.getElem?_eq_some_iff.mp hj).1) hj
              simpa using this
            have k5 := k1 hw hl hlooks
            rw [e4] at k5
            exact k5 _ e
end
end My
namespace My
open PySem PySem.Spec PyProof.Rows L2
section
variable {P : Program} {w : World} {K : PySem.W.Frag} {mg : Str → Option Value} {base : Heap} {ec : Ec}
/-- looks: from 0 on, none less than the one ahead, at most m apart -/
structure Stp (m : Int) (hs : List Int) : Prop where
  first : ∀ h, hs[0]? = some h → 0 ≤ h ∧ h ≤ m
  next : ∀ (i : Nat) h h', hs[i]? = some h → hs[i + 1]? = some h' → h ≤ h' ∧ h' ≤ h + m
def lastO (hs : List Int) : Int := hs.getLast?.getD 0
theorem Stp.add {m x y : Int} {hs : List Int} (s : Stp m hs) (e : lastO hs = x) (h1 : x ≤ y) (h2 : y ≤ x + m) : Stp m (hs ++ [y]) := by
  constructor
  · intro h hh
    cases hs with
    | nil =>
      simp at hh
      subst hh
      have : x = 0 := by rw [← e]; rfl
      omega
    | cons a r => exact s.first h (by simpa using hh)
  · intro i h h' hi hi'
    by_cases hl : i + 1 < hs.length
    · exact s.next i h h' (by rw [List.getElem?_append_left (by omega)] at hi; exact hi) (by rw [List.getElem?_append_left hl] at hi'; exact hi')
    · have hle := (List.getElem?_eq_some_iff.mp hi').1
      rw [List.length_append, List.length_singleton] at hle
      have e1 : i + 1 = hs.length := by omega
      rw [List.getElem?_append_right (by omega), e1, Nat.sub_self] at hi'
      have e2 : y = h' := by simpa using hi'
      rw [List.getElem?_append_left (by omega)] at hi
      have e3 : hs.getLast? = some h := by
        rw [List.getLast?_eq_getElem?, ← e1]
        exact hi
      have e4 : lastO hs = h := by unfold lastO; rw [e3]; rfl
      omega
def sp_looks (K : PySem.W.Frag) : Sp := fun vs H Q _ => ∃ (a s : Addr) (m g : Int), vs = [.ref a, .int m, .int g] ∧ Dr K a s H ∧ 1 ≤ m ∧ m ≤ 1000000000000 ∧
  ∀ p hs H', hs ≠ [] → hs.length ≤ 61 → Stp m hs → Go K a s H H' → H' p = some (.lst (hs.map V.int)) → p ≠ a → Q (.ref p) H'
theorem sc__law_looks : FnScope ["_law_state", "_law_most", "_law_goal", "_law_found", "_law_here", "_law_far"] ["_law_state", "_law_most", "_law_goal"] (defScope s__law_looks) := ⟨rfl, rfl, rfl, by decide +kernel, rfl, by decide +kernel, by decide +kernel⟩
theorem ok_looks (T : Txt K mg ec) (D : Fn K mg "_law_looks" s__law_looks) (c__law_drawn : Knows P w K mg base 1 "_law_drawn" ["_law_state", "_law_many"] (sp_drawn K)) : Knows P w K mg base 2 "_law_looks" ["_law_state", "_law_most", "_law_goal"] (sp_looks K) := by
  refine Knows.mk' D sc__law_looks (fun _ _ _ _ _ _ us hl => match us, hl with | [_, _, _], _ => rfl) (fun vs H Q E h => ?_) (fun f cdv A outer s H vs Q E hr h => ?_)
  · obtain ⟨a, sc, m, g, rfl, _⟩ := h; rfl
  · obtain ⟨a, sc, m, g, rfl, hD, hm1, hm2, k⟩ := h
    refine ⟨_, (pss_cons (ps_set (i := 3) sc__law_looks.nd rfl (Or.inl rfl) (pe_lst pa_nil))
    (pss_cons (ps_set (i := 4) sc__law_looks.nd rfl (Or.inl rfl) pe_int)
    (pss_cons (ps_while passO (PW.pt (pw_or (pt_cmpR op_lt (pv 4) (pv 2) (nomark _)) (pw_or1 (pt_cmpR (op_eqD hr.units) (pv 3) (pe_lst pa_nil) (nomark _))))) (pss_cons (ps_set (i := 5) sc__law_looks.nd rfl (Or.inl rfl) (pe_ix ix_list (pe_lst (pa_cons (pv 1) (pa_cons (pe_callN c__law_drawn (hr.mono (by decide)) passD (pa_cons (pv 0) (pa_cons (pe_op op_add (pv 1) pe_int) pa_nil))) (pa_cons (pe_op op_add pe_int (pe_callN c__law_drawn (hr.mono (by decide)) passD (pa_cons (pv 0) (pa_cons (pv 1) pa_nil)))) pa_nil)))) (pe_callN c__law_drawn (hr.mono (by decide)) passD (pa_cons (pv 0) (pa_cons pe_int pa_nil))) (fun _ _ => rfl)))
    (pss_cons (ps_if (pt_cmpR op_gt (pe_callB call_lenN (by rfl) T.len PySem.boot_len (pa_cons (pv 3) pa_nil)) pe_int (nomark _)) (pss_one (ps_set (i := 5) sc__law_looks.nd rfl (Or.inl rfl) (pv 1))) pss_nil)
    (pss_cons (ps_set (i := 4) sc__law_looks.nd rfl (Or.inl rfl) (pe_op op_add (pv 4) (pe_callB (call_min2N rfl) (by rfl) T.min (by decide +kernel) (pa_cons (pv 5) (pa_cons (pv 1) pa_nil)))))
    (pss_cons (ps_expr (pe_bm PySem.F.plainAttrs_list PySem.F.slot_list_append PySem.F.type_list_append mt_append (pv 3) (pa_cons (pv 4) pa_nil)))
    (pss_one (ps_if (pt_cmpR op_gt (pe_callB call_lenN (by rfl) T.len PySem.boot_len (pa_cons (pv 3) pa_nil)) pe_int (nomark _)) (pss_one (ps_ret (pv 3))) pss_nil)))))))
    (pss_one (ps_ret (pv 3)))))), ?_⟩
    refine g_start (σ := [some _, some _, some _, none, none, none]) rfl ?_
    try dsimp only [cxOf]
    walk_at "go"
    intro p hp
    have hpa : p ≠ a := by walk_at "ne"
    walk_at "go"
    refine ⟨fun n σ H' => ∃ (hs : List Int) (here : Int) (v : Option V), n = 61 - hs.length ∧ hs.length ≤ 60 ∧ σ = [some (.ref a), some (.int m), some (.int g), some (.ref p), some (.int here), v] ∧ Go K a sc H H' ∧ H' p = some (.lst (hs.map V.int)) ∧ Stp m hs ∧ lastO hs = here,
      ⟨61, [], 0, none, rfl, by simp, rfl, Go.same hD (Same.new hp), upd_same, ⟨fun h hh => by simp at hh, fun i h h' hh => by simp at hh⟩, rfl⟩, ?_⟩
    rintro n σ H1 ⟨hs, here, v, rfl, hlen, rfl, hg, hpl, hst, hlast⟩
    have hD1 := hg.dr
    refine g_cut (fun b H' => Same H1 H' ∧ (b = false → hs ≠ [])) ?_ ?_
    · intro QB hQ
      walk_at "go"
      refine ite_dec (fun h1 => ?_) (fun h1 => ?_)
      · walk_at "go"
        exact hQ true H1 ⟨Same.refl _, fun z => nomatch z⟩
      · walk_at "go"
        intro q hq
        refine g_eqInts (ns := hs) (ms := []) (SqL.of (by walk_at "hp")) (SqL.of upd_same) ?_
        walk_at "go"
        exact hQ _ _ ⟨Same.new hq, fun z => by simpa using z⟩
    · rintro b H2 ⟨e12, hb⟩
      cases b with
      | false =>
        walk_at "go"
        exact k p hs H2 (hb rfl) (by omega) hst (hg.then e12) (e12 _ _ hpl) hpa
      | true =>
        refine iteT ⟨_, fun _ _ z => z, ?_⟩
        have hD2 := hD1.same e12
        walk_at "go"
        refine ⟨a, sc, m + 1, rfl, hD2, ⟨by omega, by omega⟩, fun r1 H3 h30 h31 g3 => ?_⟩
        walk_at "go"
        have hD3 := g3.dr
        refine ⟨a, sc, m, rfl, hD3, ⟨by omega, by omega⟩, fun r2 H4 h40 h41 g4 => ?_⟩
        have hD4 := g4.dr
        walk_at "go"
        intro q hq
        have hqa : q ≠ a := by walk_at "ne"
        walk_at "go"
        refine ⟨a, sc, 3, rfl, hD4.same (Same.new hq), (by decide), fun r3 H5 h50 h51 g5 => ?_⟩
        refine g_ixAny (SqL.of (g5.at upd_same hqa)) h50 (by simpa using h51) (fun v2 hv => ?_)
        obtain ⟨z, rfl, hz⟩ := one_int (zs := [m, r1, 1 + r2]) hv
        have hz2 : 0 ≤ z := by
          simp only [List.mem_cons, List.not_mem_nil, or_false] at hz
          omega
        have g15 : Go K a sc H1 H5 := ((Go.same hD1 e12).trans g3).trans (g4.trans (g5.new hq))
        have hpl5 : H5 p = some (.lst (hs.map V.int)) := g15.at hpl hpa
        walk_at "goS"
        refine g_cutS (fun σ' H' => H' = H5 ∧ ∃ y, 0 ≤ y ∧ σ' = [some (.ref a), some (.int m), some (.int g), some (.ref p), some (.int here), some (.int y)]) ?_ ?_
        · intro N hN
          walk_at "go"
          refine g_lenL (SqL.of hpl5) ?_
          walk_at "go"
          refine ite_dec (fun h1 => ?_) (fun h1 => ?_)
          · walk_at "go"
            exact hN _ _ ⟨rfl, m, by omega, rfl⟩
          · walk_at "go"
            exact hN _ _ ⟨rfl, z, hz2, rfl⟩
        · rintro σ' H' ⟨rfl, y, hy, rfl⟩
          walk_at "go"
          refine g_tyL (SqL.of hpl5) ?_
          walk_at "go"
          refine g_app hpl5 (by rw [List.length_map]; omega) ?_
          walk_at "go"
          refine g_lenL (SqL.of upd_same) ?_
          walk_at "go"
          obtain ⟨y2, hy2⟩ : ∃ y2 : Int, y2 = here + (if m < y then m else y) := ⟨_, rfl⟩
          have hy3 : here ≤ y2 ∧ y2 ≤ here + m := by
            rw [hy2]
            split <;> omega
          rw [← hy2]
          have hst2 := hst.add hlast hy3.1 hy3.2
          have hg2 : Go K a sc H (upd H' p (.lst ((hs ++ [y2]).map V.int))) := (hg.trans g15).mut hD hp
          have hlast2 : lastO (hs ++ [y2]) = y2 := by simp [lastO]
          have emap : hs.map V.int ++ [V.int y2] = (hs ++ [y2]).map V.int := by simp
          rw [emap]
          refine ite_dec (fun h1 => ?_) (fun h1 => ?_)
          · walk_at "go"
            exact k p _ _ (by simp) (by rw [List.length_append, List.length_singleton]; omega) hst2 hg2 upd_same hpa
          · walk_at "go"
            rw [List.length_map, List.length_append, List.length_singleton] at h1
            refine ⟨_, ?_, hs ++ [y2], y2, some (.int y), rfl, ?_, rfl, hg2, upd_same, hst2, hlast2⟩
            · rw [List.length_append, List.length_singleton]; omega
            · rw [List.length_append, List.length_singleton]; omega
end
end My
namespace My
open PySem PySem.Spec PyProof.Rows L2
section
variable {P : Program} {w : World} {K : PySem.W.Frag} {mg : Str → Option Value} {base : Heap} {ec : Ec}
theorem Stp.nonneg {m : Int} {hs : List Int} (st : Stp m hs) : ∀ (i : Nat) h, hs[i]? = some h → 0 ≤ h
  | 0, h, e => (st.first h e).1
  | i + 1, h, e => by
    have hl := (List.getElem?_eq_some_iff.mp e).1
    have e2 : hs[i]? = some (hs[i]'(by omega)) := List.getElem?_eq_getElem (by omega)
    have h1 := st.nonneg i _ e2
    have h2 := st.next i _ h e2 e
    omega
theorem Stp.mono {m : Int} {hs : List Int} (st : Stp m hs) : hs.Pairwise (· ≤ ·) := by
  rw [List.pairwise_iff_getElem]
  intro i j hi hj hij
  obtain ⟨d, rfl⟩ : ∃ d, j = i + 1 + d := ⟨j - (i + 1), by omega⟩
  clear hij
  induction d with
  | zero => exact (st.next i _ _ (List.getElem?_eq_getElem hi) (List.getElem?_eq_getElem hj)).1
  | succ d ih =>
    have a := ih (by omega)
    have b := (st.next (i + 1 + d) _ _ (List.getElem?_eq_getElem (by omega)) (List.getElem?_eq_getElem hj)).1
    omega
/-- a look that no look ahead of it has reached long: what is shown tells the truth -/
theorem Stp.shown {n l : Int} {hs : List Int} (hn : Wh n) (hl : Se n l) (st : Stp (n - l) hs) {i : Nat} {h : Int} (e : hs[i]? = some h) (hb : ∀ (j : Nat) h', j < i → hs[j]? = some h' → h' < l) : (l ≤ h % n ↔ l ≤ h) := by
  have h0 := st.nonneg i h e
  have hn0 : 0 < n := by have := hn.1; omega
  have hlt : h < n ∨ l = 0 := by
    cases i with
    | zero =>
      have := (st.first h e).2
      have := hl.1
      omega
    | succ j =>
      have hlen := (List.getElem?_eq_some_iff.mp e).1
      have e2 : hs[j]? = some (hs[j]'(by omega)) := List.getElem?_eq_getElem (by omega)
      have h1 := hb j _ (by omega) e2
      have h2 := (st.next j _ h e2 e).2
      omega
  rcases hlt with q | q
  · rw [Int.emod_eq_of_lt h0 q]
  · subst q
    exact ⟨fun _ => h0, fun _ => Int.emod_nonneg _ (by omega)⟩
theorem Stp.firstO {n l : Int} {hs : List Int} (hn : Wh n) (hl : Se n l) (st : Stp (n - l) hs) : firstO n l hs = hs.findIdx? fun h => decide (l ≤ h) := by
  cases e : hs.findIdx? (fun h => decide (l ≤ h)) with
  | none =>
    unfold My.firstO
    rw [List.findIdx?_eq_none_iff] at e ⊢
    intro h hh
    obtain ⟨i, hi⟩ := List.getElem?_of_mem hh
    have h1 := e h hh
    have h2 := st.shown hn hl hi fun j h' hj hh' => by
      have := e h' (List.mem_of_getElem? hh')
      simpa using this
    simp only [decide_eq_false_iff_not] at h1 ⊢
    exact fun z => h1 (h2.mp z)
  | some i =>
    unfold My.firstO
    rw [List.findIdx?_eq_some_iff_getElem] at e ⊢
    obtain ⟨hl1, h1, h2⟩ := e
    have hb : ∀ (j : Nat) h', j < i → hs[j]? = some h' → h' < l := fun j h' hj hh' => by
      obtain ⟨q1, q2⟩ := List.getElem?_eq_some_iff.mp hh'
      have := h2 j hj
      rw [q2] at this
      simpa using this
    refine ⟨hl1, ?_, fun j hj => ?_⟩
    · have := (st.shown hn hl (List.getElem?_eq_getElem hl1) hb).mpr (by simpa using h1)
      exact decide_eq_true this
    · have hjl : j < hs.length := by omega
      have q := st.shown hn hl (List.getElem?_eq_getElem hjl) fun j' h' hj' hh' => hb j' h' (by omega) hh'
      have := hb j _ hj (List.getElem?_eq_getElem hjl)
      simp only [Bool.not_eq_true', decide_eq_true_eq]
      omega
/-- the places, and the first of them -/
def dueL (l : Int) (hs : List Int) (i : Nat) : List Nat := (List.range i).filter fun k => decide (l ≤ hs.getD k 0)
theorem dueL_head (l : Int) (hs : List Int) : (dueL l hs hs.length).head? = hs.findIdx? fun h => decide (l ≤ h) := by
  unfold dueL
  rw [List.head?_filter]
  cases e : hs.findIdx? (fun h => decide (l ≤ h)) with
  | none =>
    rw [List.findIdx?_eq_none_iff] at e
    rw [List.find?_eq_none]
    intro k hk
    have hk := List.mem_range.mp hk
    have h1 := e hs[k] (List.getElem_mem hk)
    rw [List.getD_eq_getElem?_getD, List.getElem?_eq_getElem hk]
    simpa using h1
  | some i =>
    rw [List.findIdx?_eq_some_iff_getElem] at e
    obtain ⟨hl1, h1, h2⟩ := e
    rw [List.find?_range_eq_some]
    refine ⟨?_, List.mem_range.mpr hl1, fun j hj => ?_⟩
    · rw [List.getD_eq_getElem?_getD, List.getElem?_eq_getElem hl1]
      simpa using h1
    · have := h2 j hj
      rw [List.getD_eq_getElem?_getD, List.getElem?_eq_getElem (by omega)]
      simpa using this
theorem dueL_succ {l : Int} {hs : List Int} {i : Nat} {h : Int} (e : hs[i]? = some h) : dueL l hs (i + 1) = if l ≤ h then dueL l hs i ++ [i] else dueL l hs i := by
  unfold dueL
  rw [List.range_succ, List.filter_append, List.filter_cons]
  have e2 : hs.getD i 0 = h := by rw [List.getD_eq_getElem?_getD, e]; rfl
  rw [e2]
  by_cases q : l ≤ h
  · rw [if_pos q, if_pos (decide_eq_true q)]; rfl
  · rw [if_neg q, if_neg (by simpa using q)]; simp
abbrev natV (ks : List Nat) : List V := ks.map fun k => V.int (k : Nat)
def orV (o : Option Nat) (x : V) : V := match o with
  | some k => V.int (k : Nat)
  | none => x
theorem head_at {ks : List Nat} {x : V} : atI (natV ks ++ [x]) 0 = some (orV ks.head? x) := by
  cases ks with
  | nil => exact atI_nat (j := 0) rfl
  | cons a r => exact atI_nat (j := 0) rfl
/-- the looks by which it is missed -/
def missed (l m : Int) : List Int := ((List.range ((l - 1) / m).toNat).map fun (k : Nat) => (1 + (k : Int)) * m) ++ [l - 1, l + m]
theorem missed_looks {n l : Int} (hn : Wh n) (hl : Se n l) (h0 : 0 < l) : Looks (missed l (n - l)) ∧ firstO n l (missed l (n - l)) = none := by
  have hm : 0 < n - l := by have := hl.2; omega
  have key : ∀ k : Nat, k < ((l - 1) / (n - l)).toNat → 0 ≤ (1 + (k : Int)) * (n - l) ∧ (1 + (k : Int)) * (n - l) ≤ l - 1 := fun k hk => by
    have h1 : 1 + (k : Int) ≤ (l - 1) / (n - l) := by omega
    have h2 : (1 + (k : Int)) * (n - l) ≤ (l - 1) / (n - l) * (n - l) := Int.mul_le_mul_of_nonneg_right h1 (by omega)
    have h3 := Int.ediv_mul_le (l - 1) (show n - l ≠ 0 by omega)
    have h4 : 0 ≤ (1 + (k : Int)) * (n - l) := Int.mul_nonneg (by omega) (by omega)
    omega
  have mem : ∀ x ∈ missed l (n - l), 0 ≤ x ∧ (x ≤ l - 1 ∨ x = n) := fun x hx => by
    unfold missed at hx
    rcases List.mem_append.mp hx with q | q
    · obtain ⟨k, hk, rfl⟩ := List.mem_map.mp q
      have := key k (List.mem_range.mp hk)
      omega
    · simp only [List.mem_cons, List.not_mem_nil, or_false] at q
      omega
  refine ⟨⟨fun x hx => (mem x hx).1, ?_⟩, ?_⟩
  · unfold missed
    rw [List.pairwise_append]
    refine ⟨?_, ?_, ?_⟩
    · rw [List.pairwise_map]
      refine List.Pairwise.imp ?_ List.pairwise_lt_range
      intro a b hab
      exact Int.mul_le_mul_of_nonneg_right (by omega) (by omega)
    · simp only [List.pairwise_cons, List.mem_cons, List.not_mem_nil, or_false, forall_eq, List.Pairwise.nil, and_true]
      refine ⟨by omega, fun _ h => h.elim⟩
    · intro x hx y hy
      obtain ⟨k, hk, rfl⟩ := List.mem_map.mp hx
      have := key k (List.mem_range.mp hk)
      simp only [List.mem_cons, List.not_mem_nil, or_false] at hy
      omega
  · unfold firstO
    rw [List.findIdx?_eq_none_iff]
    intro x hx
    have := mem x hx
    have hn0 : 0 < n := by have := hn.1; omega
    simp only [decide_eq_false_iff_not, Int.not_le]
    rcases this with ⟨h1, h2 | h2⟩
    · rw [Int.emod_eq_of_lt h1 (by omega)]
      omega
    · rw [h2, Int.emod_self]
      exact h0
end
end My
namespace My
open PySem PySem.Spec PyProof.Rows L2
section
variable {P : Program} {w : World} {K : PySem.W.Frag} {mg : Str → Option Value} {base : Heap} {ec : Ec}
theorem sc_law : FnScope ["_law_script", "_law_state", "_law_turn", "_law_wheel_here", "_law_long", "_law_most", "_law_looks_here", "_law_due", "_law_begun", "_law_k", "_law_now", "_law_steps"] ["_law_script"] (defScope s_law) := ⟨rfl, rfl, rfl, by decide +kernel, rfl, by decide +kernel, by decide +kernel⟩
theorem ok_law {f0 : Addr} {fd0 : FuncData} (T : Txt K mg ec) (F : Fun K "law" "law" s_law f0 fd0) (c__law_start : Knows P w K mg base 1 "_law_start" ["_law_script"] (sp_start K)) (c__law_drawn : Knows P w K mg base 1 "_law_drawn" ["_law_state", "_law_many"] (sp_drawn K))
    (c__law_wheel : Knows P w K mg base 2 "_law_wheel" ["_law_state"] (sp_wheel K)) (c__law_looks : Knows P w K mg base 2 "_law_looks" ["_law_state", "_law_most", "_law_goal"] (sp_looks K)) (c_apart : Knows P w K mg base 4 "apart" ["wheel", "long"] (sp_apart ec))
    (c_first_over : Knows P w K mg base 4 "first_over" ["wheel", "long", "looks"] (sp_first_over K ec)) (c_over : Knows P w K mg base 4 "over" ["wheel", "long", "begun", "now"] (sp_over ec)) : FnOk P w K mg base (L2.CX P w) 5 f0 fd0 ["_law_script"] (sp_law K) := by
  refine fnok_mk F sc_law (fun vs H Q E h => ?_) (fun cdv A outer s H vs Q E hr h => ?_)
  · obtain ⟨s, ns, rfl, _⟩ := h; rfl
  · obtain ⟨s, ns, rfl, hS, hl, k⟩ := h
    refine ⟨_, (pss_cons (ps_set (i := 1) sc_law.nd rfl (Or.inl rfl) (pe_callN c__law_start (hr.mono (by decide)) passD (pa_cons (pv 0) pa_nil)))
    (pss_cons (ps_for passO rfl (pi_range1 (by rfl) T.range (pa_cons pe_int pa_nil)) (pg_name (i := 2) sc_law.nd rfl (Or.inl rfl)) (pss_cons (ps_set (i := 3) sc_law.nd rfl (Or.inl rfl) (pe_callN c__law_wheel (hr.mono (by decide)) passD (pa_cons (pv 1) pa_nil)))
    (pss_cons (ps_set (i := 4) sc_law.nd rfl (Or.inr rfl) (pe_ix ix_list (pe_lst (pa_cons pe_int (pa_cons (pe_op op_sub (pv 3) pe_int) (pa_cons (pe_callN c__law_drawn (hr.mono (by decide)) passD (pa_cons (pv 1) (pa_cons (pv 3) pa_nil))) (pa_cons (pe_callN c__law_drawn (hr.mono (by decide)) passD (pa_cons (pv 1) (pa_cons (pe_op op_add (pe_op op_fdivW (pv 3) pe_int) pe_int) pa_nil))) pa_nil))))) (pe_callN c__law_drawn (hr.mono (by decide)) passD (pa_cons (pv 1) (pa_cons pe_int pa_nil))) (fun _ _ => rfl)))
    (pss_cons (ps_set (i := 5) sc_law.nd rfl (Or.inr rfl) (pe_callN c_apart (hr.mono (by decide)) passD (pa_cons (pv 3) (pa_cons (pv 4) pa_nil))))
    (pss_cons (ps_set (i := 6) sc_law.nd rfl (Or.inr rfl) (pe_callN c__law_looks (hr.mono (by decide)) passD (pa_cons (pv 1) (pa_cons (pv 5) (pa_cons (pv 4) pa_nil)))))
    (pss_cons (ps_setLc (i := 7) (own := [("_law_k", 9)]) (g := gName 9) rfl sc_law.nd rfl rfl (sw_true rfl rfl rfl (by decide +kernel)) (pi_range1 (by rfl) T.range (pa_cons (pe_callB call_lenN (by rfl) T.len PySem.boot_len (pa_cons (pv 6) pa_nil)) pa_nil)) (blkOk_by (own := [("_law_k", 9)]) (N := ["_law_script", "_law_state", "_law_turn", "_law_wheel_here", "_law_long", "_law_most", "_law_looks_here", "_law_due", "_law_begun", "_law_k", "_law_now", "_law_steps"]) (sc := defScope s_law) (by decide +kernel)) (fun _ _ _ _ _ => (pg_name (i := 9) sc_law.nd rfl (Or.inl rfl))) (fun _ _ _ _ _ => (pts_one (pt_cmpR op_ge (pe_ix (r := rIxL K) ix_list (pv 6) (pv 9) (fun _ _ => rfl)) (pv 4) (nomark _)))) (fun _ _ _ _ _ => (pv 9)))
    (pss_cons (ps_if (pt_cmpR op_ne (pe_callN c_first_over (hr.mono (by decide)) passD (pa_cons (pv 3) (pa_cons (pv 4) (pa_cons (pv 6) pa_nil)))) (pe_ix ix_list (pe_op op_cat (pv 7) (pe_lst (pa_cons pe_non pa_nil))) pe_int (fun _ _ => rfl)) (nomark _)) (pss_one (ps_ret pe_bl)) pss_nil)
    (pss_cons (ps_set (i := 8) sc_law.nd rfl (Or.inl rfl) (pe_callN c__law_drawn (hr.mono (by decide)) passD (pa_cons (pv 1) (pa_cons (pv 3) pa_nil))))
    (pss_cons (ps_for passO rfl (pi_range1 (by rfl) T.range (pa_cons (pe_callB call_lenN (by rfl) T.len PySem.boot_len (pa_cons (pv 6) pa_nil)) pa_nil)) (pg_name (i := 9) sc_law.nd rfl (Or.inl rfl)) (pss_one (ps_if (pt_cmpR op_le (pv 9) (pe_ix ix_list (pe_op op_cat (pv 7) (pe_lst (pa_cons (pe_callB call_lenN (by rfl) T.len PySem.boot_len (pa_cons (pv 6) pa_nil)) pa_nil))) pe_int (fun _ _ => rfl)) (nomark _)) (pss_cons (ps_set (i := 10) sc_law.nd rfl (Or.inl rfl) (pe_op op_mod (pe_op op_add (pv 8) (pe_ix ix_list (pv 6) (pv 9) (fun _ _ => rfl))) (pv 3)))
    (pss_one (ps_if (pt_cmpR op_ne (pe_callN c_over (hr.mono (by decide)) passD (pa_cons (pv 3) (pa_cons (pv 4) (pa_cons (pv 8) (pa_cons (pv 10) pa_nil))))) (pe_cmpR op_ge (pe_ix ix_list (pv 6) (pv 9) (fun _ _ => rfl)) (pv 4) (nomark _)) (nomark _)) (pss_one (ps_ret pe_bl)) pss_nil))) pss_nil)))
    (pss_one (ps_if (PW.pt (pw_and (pt_cmpR op_gt (pv 4) pe_int (nomark _)) (pw_and1 (pt_cmpR op_le (pe_op op_sub (pv 4) pe_int) (pe_op op_mul pe_int (pv 5)) (nomark _))))) (pss_cons (ps_set (i := 11) sc_law.nd rfl (Or.inl rfl) (pe_op op_cat (pe_lc (own := [("_law_k", 9)]) (g := gName 9) (tt := tYes) rfl sc_law.nd (pi_range2 (by rfl) T.range (pa_cons pe_int (pa_cons (pe_op op_add (pe_op op_fdivW (pe_op op_sub (pv 4) pe_int) (pv 5)) pe_int) pa_nil))) (blkOk_by (own := [("_law_k", 9)]) (N := ["_law_script", "_law_state", "_law_turn", "_law_wheel_here", "_law_long", "_law_most", "_law_looks_here", "_law_due", "_law_begun", "_law_k", "_law_now", "_law_steps"]) (sc := defScope s_law) (by decide +kernel)) (fun _ _ _ _ _ => (pg_name (i := 9) sc_law.nd rfl (Or.inl rfl))) (fun _ _ _ _ _ => pts_nil) (fun _ _ _ _ _ => (pe_op op_mul (pv 9) (pv 5)))) (pe_lst (pa_cons (pe_op op_sub (pv 4) pe_int) (pa_cons (pe_op op_add (pv 4) (pv 5)) pa_nil)))))
    (pss_one (ps_if (pt_cmpR op_notNN (pe_callN c_first_over (hr.mono (by decide)) passD (pa_cons (pv 3) (pa_cons (pv 4) (pa_cons (pv 11) pa_nil)))) pe_non (nomark _)) (pss_one (ps_ret pe_bl)) pss_nil))) pss_nil)))))))))))
    (pss_one (ps_ret pe_bl)))), ?_⟩
    refine g_start (σ := [some _, none, none, none, none, none, none, none, none, none, none, none]) rfl ?_
    try dsimp only [cxOf]
    walk_at "go"
    refine ⟨s, ns, rfl, hS, hl, fun a H1 ha e1 hD1 => ?_⟩
    walk_at "go"
    refine ⟨by decide, by decide, for_R (fun i σ H' => Dr K a s H' ∧ ∃ v2 v3 v4 v5 v6 v7 v8 v9 v10 v11, σ = [some (.ref s), some (.ref a), v2, v3, v4, v5, v6, v7, v8, v9, v10, v11]) ⟨hD1, _, _, _, _, _, _, _, _, _, _, rfl⟩ ?_ ?_⟩
    · rintro i σ H2 hi ⟨hD2, v2, v3, v4, v5, v6, v7, v8, v9, v10, v11, rfl⟩
      walk_at "go"
      refine ⟨a, s, rfl, hD2, fun n H3 hn g3 => ?_⟩
      have hD3 := g3.dr
      have hn0 : 0 < n := by have := hn.1; omega
      have hn1 := hn.2
      walk_at "go"
      refine ⟨a, s, n, rfl, hD3, ⟨hn0, by omega⟩, fun r1 H4 h40 h41 g4 => ?_⟩
      have hD4 := g4.dr
      walk_at "go"
      refine ⟨a, s, n / 2 + 1, rfl, hD4, ⟨by omega, by omega⟩, fun r2 H5 h50 h51 g5 => ?_⟩
      have hD5 := g5.dr
      walk_at "go"
      intro q hq
      have hqa : q ≠ a := by walk_at "ne"
      walk_at "go"
      refine ⟨a, s, 4, rfl, hD5.same (Same.new hq), (by decide), fun r3 H6 h60 h61 g6 => ?_⟩
      have hD6 := g6.dr
      refine g_ixAny (SqL.of (g6.at upd_same hqa)) h60 (by simpa using h61) (fun v2 hv => ?_)
      obtain ⟨l, rfl, hz⟩ := one_int (zs := [0, n - 1, r1, r2]) hv
      have hl : Se n l := by
        simp only [List.mem_cons, List.not_mem_nil, or_false] at hz
        show 0 ≤ l ∧ l < n
        omega
      clear hz hv
      walk_at "go"
      refine ⟨n, l, rfl, fun _ _ => ?_, fun z => (z hn).elim, fun _ z => (z hl).elim⟩
      walk_at "go"
      refine ⟨a, s, n - l, l, rfl, hD6, by have := hl.2; omega, by have := hl.1; omega, fun p hs H7 hne hlen hst g7 hp hpa => ?_⟩
      have hD7 := g7.dr
      walk_at "go"
      refine g_lenL (SqL.of hp) ?_
      walk_at "go"
      rw [List.length_map]
      refine ⟨by omega, by omega, fun D hDn => lc_R 0 _ (fun i acc H' => acc = natV (dueL l hs i) ∧ Same H7 H') (fun i acc H' o h => ⟨h.1, Same.mut h.2 hDn⟩) ⟨rfl, Same.refl _⟩ ?_ ?_⟩
      · rintro j acc H8 hj ⟨rfl, e78⟩ hDl hal
        walk_at "wp"
        walk_at "go"
        refine ⟨rfl, ?_⟩
        walk_at "go"
        have hjl : j < hs.length := by simpa using hj
        refine g_ixL (v := .int hs[j]) (SqL.of (e78 _ _ hp)) ?_ ?_
        · rw [Int.zero_add]
          exact atI_nat (by rw [List.getElem?_map, List.getElem?_eq_getElem hjl]; rfl)
        walk_at "go"
        refine ite_dec (fun h1 => ?_) (fun h1 => ?_)
        · walk_at "go"
          refine lc_leaf (fun i acc H' o h => ⟨h.1, Same.mut h.2 hDn⟩) hDl hal (by omega) ⟨?_, e78⟩
          rw [dueL_succ (List.getElem?_eq_getElem hjl), if_pos h1, Int.zero_add]
          simp [natV]
        · refine lc_skip hDl hal ⟨?_, e78⟩
          rw [dueL_succ (List.getElem?_eq_getElem hjl), if_neg h1]
      rintro acc H8 ⟨rfl, e78⟩ hDl
      have hlen2 : ((hs.length : Nat) : Int).toNat = hs.length := by omega
      rw [hlen2] at hDl
      have hdlen : (dueL l hs hs.length).length ≤ 61 := by
        unfold dueL
        have := List.length_filter_le (fun k => decide (l ≤ hs.getD k 0)) (List.range hs.length)
        rw [List.length_range] at this
        omega
      have hD8 := hD7.same e78
      have hp8 := e78 _ _ hp
      have hloo : Looks hs := ⟨fun x hx => by
        obtain ⟨i, hi⟩ := List.getElem?_of_mem hx
        exact hst.nonneg i x hi, hst.mono⟩
      have hfo := Stp.firstO hn hl hst
      have hhd := dueL_head l hs
      rw [← hfo] at hhd
      walk_at "goS"
      refine g_cutS (fun σ' H' => σ' = [some (.ref s), some (.ref a), some (.int (0 + (i : Nat))), some (.int n), some (.int l), some (.int (n - l)), some (.ref p), some (.ref D), v8, v9, v10, v11] ∧ Same H8 H') ?_ ?_
      · intro N hN
        walk_at "go"
        refine ⟨n, l, p, hs, rfl, SqL.of hp8, by omega, fun _ _ _ H9 e89 => ?_, fun z => (z hn).elim, fun _ z => (z hl).elim, fun _ _ z => (z hloo).elim⟩
        walk_at "go"
        intro t ht
        refine g_cat (e89.trans (Same.new ht) _ _ hDl) upd_same (by simp only [List.length_map, List.length_cons, List.length_nil]; omega) (fun t2 ht2 => ?_)
        walk_at "go"
        refine g_ixL (v := onV (firstO n l hs)) (SqL.of upd_same) ?_ ?_
        · rw [head_at, hhd]
          cases firstO n l hs <;> rfl
        refine g_ne (by cases firstO n l hs <;> rfl) ?_
        walk_at "go"
        refine ite_ndec (fun h => (h rfl).elim) (fun _ => ?_)
        walk_at "go"
        exact hN _ _ ⟨rfl, (e89.trans (Same.new ht)).trans (Same.new ht2)⟩
      rintro σ' H9 ⟨rfl, e89⟩
      have hD9 := hD8.same e89
      walk_at "go"
      refine ⟨a, s, n, rfl, hD9, ⟨hn0, by omega⟩, fun b H10 hb0 hb1 g10 => ?_⟩
      have hD10 := g10.dr
      have hp10 : H10 p = some (.lst (hs.map V.int)) := g10.at (e89 _ _ hp8) hpa
      have hDa : D ≠ a := by walk_at "ne"
      have hD10' : H10 D = some (.lst (natV (dueL l hs hs.length))) := g10.at (e89 _ _ hDl) hDa
      walk_at "go"
      refine g_lenL (SqL.of hp10) ?_
      walk_at "go"
      rw [List.length_map]
      refine ⟨by omega, by omega, for_R (fun j σ H' => Go K a s H10 H' ∧ ∃ v9 v10, σ = [some (.ref s), some (.ref a), some (.int (0 + (i : Nat))), some (.int n), some (.int l), some (.int (n - l)), some (.ref p), some (.ref D), some (.int b), v9, v10, v11]) ⟨Go.refl hD10, _, _, rfl⟩ ?_ ?_⟩
      · rintro j σ H11 hj ⟨g11, u9, u10, rfl⟩
        have hjl : j < hs.length := by simpa using hj
        have hp11 := g11.at hp10 hpa
        have hd11 := g11.at hD10' hDa
        walk_at "go"
        refine g_lenL (SqL.of hp11) ?_
        walk_at "go"
        intro t ht
        rw [List.length_map]
        refine g_cat (Same.new ht _ _ hd11) upd_same (by simp only [List.length_map, List.length_cons, List.length_nil]; omega) (fun t2 ht2 => ?_)
        walk_at "go"
        refine g_ixL (SqL.of upd_same) head_at ?_
        have e1112 := (Same.new (o := .lst [V.int ((hs.length : Nat) : Int)]) ht).trans (Same.new (o := .lst (natV (dueL l hs hs.length) ++ [V.int ((hs.length : Nat) : Int)])) ht2)
        have g12 := g11.then e1112
        have hat : atI (hs.map V.int) (0 + (j : Nat)) = some (.int hs[j]) := by
          rw [Int.zero_add]
          exact atI_nat (by rw [List.getElem?_map, List.getElem?_eq_getElem hjl]; rfl)
        rw [hhd]
        obtain ⟨z, hz, hzj⟩ : ∃ z : Int, orV (firstO n l hs) (V.int ((hs.length : Nat) : Int)) = V.int z ∧ ((j : Nat) ≤ z → (l ≤ hs[j] % n ↔ l ≤ hs[j])) := by
          have key : (∀ (j' : Nat) h', j' < j → hs[j']? = some h' → h' < l) → (l ≤ hs[j] % n ↔ l ≤ hs[j]) := fun hb => hst.shown hn hl (List.getElem?_eq_getElem hjl) hb
          rw [hfo]
          cases e : hs.findIdx? (fun h => decide (l ≤ h)) with
          | none =>
            refine ⟨_, rfl, fun _ => key fun j' h' _ hh' => ?_⟩
            rw [List.findIdx?_eq_none_iff] at e
            have := e h' (List.mem_of_getElem? hh')
            simpa using this
          | some k0 =>
            refine ⟨_, rfl, fun hle => key fun j' h' hj' hh' => ?_⟩
            rw [List.findIdx?_eq_some_iff_getElem] at e
            obtain ⟨q1, q2⟩ := List.getElem?_eq_some_iff.mp hh'
            have := e.2.2 j' (by omega)
            rw [q2] at this
            simpa using this
        rw [hz]
        walk_at "go"
        refine ite_dec (fun h1 => ?_) (fun h1 => ?_)
        · walk_at "go"
          refine g_ixL (SqL.of (g12.at hp10 hpa)) hat ?_
          walk_at "go"
          refine ⟨n, l, b, _, rfl, fun _ _ _ _ => ?_, fun z => (z hn).elim, fun _ z => (z hl).elim, fun _ _ z => (z ⟨⟨hb0, hb1⟩, Int.emod_nonneg _ (by omega), Int.emod_lt_of_pos _ hn0⟩).elim⟩
          walk_at "go"
          refine g_ixL (SqL.of (g12.at hp10 hpa)) hat ?_
          walk_at "go"
          have hbool : decide (l ≤ ((b + hs[j]) % n - b) % n) = decide (l ≤ hs[j]) := by
            have e1 : ((b + hs[j]) % n - b) % n = hs[j] % n := by
              rw [Int.emod_sub_emod, show b + hs[j] - b = hs[j] by omega]
            rw [e1]
            exact decide_eq_decide.mpr (hzj (by omega))
          rw [hbool]
          refine ite_ndec (fun h => (h rfl).elim) (fun _ => ?_)
          walk_at "go"
          exact ⟨g12, _, _, rfl⟩
        · walk_at "go"
          exact ⟨g12, _, _, rfl⟩
      · rintro σ H11 ⟨g11, u9, u10, rfl⟩
        have hD11 := g11.dr
        refine g_ifS ?_
        refine g_cut (fun c H' => H' = H11 ∧ (c = true → 0 < l ∧ l - 1 ≤ 50 * (n - l))) ?_ ?_
        · intro QB hQ
          walk_at "go"
          refine ite_dec (fun h1 => ?_) (fun h1 => ?_)
          · walk_at "go"
            by_cases h2 : l - 1 ≤ 50 * (n - l)
            · exact hQ _ _ ⟨rfl, fun _ => ⟨h1, h2⟩⟩
            · exact hQ _ _ ⟨rfl, fun z => absurd (of_decide_eq_true z) h2⟩
          · walk_at "go"
            exact hQ _ _ ⟨rfl, fun z => nomatch z⟩
        rintro c H12 ⟨rfl, hc⟩
        cases c with
        | false =>
          walk_at "go"
          exact ⟨hD11, _, _, _, _, _, _, _, _, _, _, rfl⟩
        | true =>
          obtain ⟨hl0, hl50⟩ := hc rfl
          have hm0 : 0 < n - l := by have := hl.2; omega
          have hdiv : (l - 1) / (n - l) ≤ 50 := by
            have h1 := Int.ediv_le_ediv hm0 hl50
            rw [Int.mul_ediv_cancel _ (by omega)] at h1
            exact h1
          have hdiv0 : 0 ≤ (l - 1) / (n - l) := Int.ediv_nonneg (by omega) (by omega)
          walk_at "go"
          refine ⟨_, _, rfl, ⟨by omega, by omega, by omega, by omega⟩, fun D2 hD2n => lc_R 1 _ (fun i acc H' => acc = ((List.range i).map fun (k : Nat) => V.int ((1 + (k : Int)) * (n - l))) ∧ Same H12 H') (fun i acc H' o h => ⟨h.1, Same.mut h.2 hD2n⟩) ⟨rfl, Same.refl _⟩ ?_ ?_⟩
          · rintro j acc H13 hj ⟨rfl, e13⟩ hDl2 hal
            walk_at "wp"
            walk_at "go"
            refine ⟨rfl, ?_⟩
            walk_at "go"
            refine lc_leaf (fun i acc H' o h => ⟨h.1, Same.mut h.2 hD2n⟩) hDl2 hal (by omega) ⟨?_, e13⟩
            rw [List.range_succ, List.map_append]
            rfl
          · rintro acc H13 ⟨rfl, e13⟩ hDl2
            walk_at "go"
            intro t ht
            refine g_cat (Same.new ht _ _ hDl2) upd_same (by simp only [List.length_map, List.length_range, List.length_cons, List.length_nil]; omega) (fun t2 ht2 => ?_)
            have hsub : ((l - 1) / (n - l) + 1 - 1).toNat = ((l - 1) / (n - l)).toNat := by omega
            have emis : ((List.range ((l - 1) / (n - l) + 1 - 1).toNat).map fun (k : Nat) => V.int ((1 + (k : Int)) * (n - l))) ++ [V.int (l - 1), V.int (l + (n - l))] = (missed l (n - l)).map V.int := by
              rw [hsub]
              unfold missed
              rw [List.map_append, List.map_map]
              rfl
            rw [emis]
            obtain ⟨hmis1, hmis2⟩ := missed_looks hn hl hl0
            have e14 := (e13.trans (Same.new (o := .lst [V.int (l - 1), V.int (l + (n - l))]) ht)).trans (Same.new (o := .lst ((missed l (n - l)).map V.int)) ht2)
            walk_at "go"
            refine ⟨n, l, t2, missed l (n - l), rfl, SqL.of upd_same, ?_, fun _ _ _ H15 e15 => ?_, fun z => (z hn).elim, fun _ z => (z hl).elim, fun _ _ z => (z hmis1).elim⟩
            · unfold missed
              simp only [List.length_append, List.length_map, List.length_range, List.length_cons, List.length_nil]
              omega
            walk_at "go"
            rw [hmis2]
            refine ite_ndec (fun h => (h rfl).elim) (fun _ => ?_)
            walk_at "go"
            exact ⟨hD11.same (e14.trans e15), _, _, _, _, _, _, _, _, _, _, rfl⟩
    · rintro σ H2 ⟨hD2, v2, v3, v4, v5, v6, v7, v8, v9, v10, v11, rfl⟩
      walk_at "go"
      exact k _
end
end My
namespace My
open PySem PySem.Spec PyProof.Rows L2
section
variable {P : Program} {w : World} {K : PySem.W.Frag} {mg : Str → Option Value} {base : Heap} {ec : Ec}
theorem all_mk {l : PySem.W.OpenLaw} {w : World} {K : PySem.W.Frag} {h : Heap} {mg : Str → Option Value} {fa : Addr} (X : K.In h) (G : h.Ns mainGlobals mg) (hfa : mg "law" = some (.ref fa))
    {f0 : Addr} {od0 an0 : Option Addr} {sl0 : Array (Option Value)} {oc0 kV0 dc0 pm0 cd0 ct0 : Value}
    {f1 : Addr} {od1 an1 : Option Addr} {sl1 : Array (Option Value)} {oc1 kV1 dc1 pm1 cd1 ct1 : Value}
    {f2 : Addr} {od2 an2 : Option Addr} {sl2 : Array (Option Value)} {oc2 kV2 dc2 pm2 cd2 ct2 : Value}
    {f3 : Addr} {od3 an3 : Option Addr} {sl3 : Array (Option Value)} {oc3 kV3 dc3 pm3 cd3 ct3 : Value}
    {f4 : Addr} {od4 an4 : Option Addr} {sl4 : Array (Option Value)} {oc4 kV4 dc4 pm4 cd4 ct4 : Value}
    {f5 : Addr} {od5 an5 : Option Addr} {sl5 : Array (Option Value)} {oc5 kV5 dc5 pm5 cd5 ct5 : Value}
    {f6 : Addr} {od6 an6 : Option Addr} {sl6 : Array (Option Value)} {oc6 kV6 dc6 pm6 cd6 ct6 : Value}
    {f7 : Addr} {od7 an7 : Option Addr} {sl7 : Array (Option Value)} {oc7 kV7 dc7 pm7 cd7 ct7 : Value}
    {f8 : Addr} {od8 an8 : Option Addr} {sl8 : Array (Option Value)} {oc8 kV8 dc8 pm8 cd8 ct8 : Value}
    {f9 : Addr} {od9 an9 : Option Addr} {sl9 : Array (Option Value)} {oc9 kV9 dc9 pm9 cd9 ct9 : Value}
    {f10 : Addr} {od10 an10 : Option Addr} {sl10 : Array (Option Value)} {oc10 kV10 dc10 pm10 cd10 ct10 : Value}
    {f11 : Addr} {od11 an11 : Option Addr} {sl11 : Array (Option Value)} {oc11 kV11 dc11 pm11 cd11 ct11 : Value}
    {f12 : Addr} {od12 an12 : Option Addr} {sl12 : Array (Option Value)} {oc12 kV12 dc12 pm12 cd12 ct12 : Value}
    {t_MOST_WHEEL : Tok}
    {C_BadWheel : Addr}
    {C_BadSeen : Addr}
    {C_BadGaps : Addr}
    {C_BadLong : Addr}
    {C_WrapError : Addr}
    (a0 : PySem.W.nsIn K mainGlobals "is_wheel" = some (some (.ref f0)))
    (l0 : K.lookup f0 = some ⟨oc0, od0, .func (PySem.W.fnOf "is_wheel" "is_wheel" (defArgs s_is_wheel) (defBody s_is_wheel) (defScope s_is_wheel) .none kV0 dc0 pm0 an0 cd0 ct0), sl0⟩)
    (c0 : PySem.W.codeIn K cd0 "is_wheel" = true)
    (k0 : PySem.W.keepIn K (.ref f0) = true)
    (a1 : PySem.W.nsIn K mainGlobals "need_wheel" = some (some (.ref f1)))
    (l1 : K.lookup f1 = some ⟨oc1, od1, .func (PySem.W.fnOf "need_wheel" "need_wheel" (defArgs s_need_wheel) (defBody s_need_wheel) (defScope s_need_wheel) .none kV1 dc1 pm1 an1 cd1 ct1), sl1⟩)
    (c1 : PySem.W.codeIn K cd1 "need_wheel" = true)
    (k1 : PySem.W.keepIn K (.ref f1) = true)
    (a2 : PySem.W.nsIn K mainGlobals "need_seen" = some (some (.ref f2)))
    (l2 : K.lookup f2 = some ⟨oc2, od2, .func (PySem.W.fnOf "need_seen" "need_seen" (defArgs s_need_seen) (defBody s_need_seen) (defScope s_need_seen) .none kV2 dc2 pm2 an2 cd2 ct2), sl2⟩)
    (c2 : PySem.W.codeIn K cd2 "need_seen" = true)
    (k2 : PySem.W.keepIn K (.ref f2) = true)
    (a3 : PySem.W.nsIn K mainGlobals "since_of" = some (some (.ref f3)))
    (l3 : K.lookup f3 = some ⟨oc3, od3, .func (PySem.W.fnOf "since_of" "since_of" (defArgs s_since_of) (defBody s_since_of) (defScope s_since_of) .none kV3 dc3 pm3 an3 cd3 ct3), sl3⟩)
    (c3 : PySem.W.codeIn K cd3 "since_of" = true)
    (k3 : PySem.W.keepIn K (.ref f3) = true)
    (a4 : PySem.W.nsIn K mainGlobals "need_long" = some (some (.ref f4)))
    (l4 : K.lookup f4 = some ⟨oc4, od4, .func (PySem.W.fnOf "need_long" "need_long" (defArgs s_need_long) (defBody s_need_long) (defScope s_need_long) .none kV4 dc4 pm4 an4 cd4 ct4), sl4⟩)
    (c4 : PySem.W.codeIn K cd4 "need_long" = true)
    (k4 : PySem.W.keepIn K (.ref f4) = true)
    (a5 : PySem.W.nsIn K mainGlobals "over" = some (some (.ref f5)))
    (l5 : K.lookup f5 = some ⟨oc5, od5, .func (PySem.W.fnOf "over" "over" (defArgs s_over) (defBody s_over) (defScope s_over) .none kV5 dc5 pm5 an5 cd5 ct5), sl5⟩)
    (c5 : PySem.W.codeIn K cd5 "over" = true)
    (k5 : PySem.W.keepIn K (.ref f5) = true)
    (a6 : PySem.W.nsIn K mainGlobals "first_over" = some (some (.ref f6)))
    (l6 : K.lookup f6 = some ⟨oc6, od6, .func (PySem.W.fnOf "first_over" "first_over" (defArgs s_first_over) (defBody s_first_over) (defScope s_first_over) .none kV6 dc6 pm6 an6 cd6 ct6), sl6⟩)
    (c6 : PySem.W.codeIn K cd6 "first_over" = true)
    (k6 : PySem.W.keepIn K (.ref f6) = true)
    (a7 : PySem.W.nsIn K mainGlobals "apart" = some (some (.ref f7)))
    (l7 : K.lookup f7 = some ⟨oc7, od7, .func (PySem.W.fnOf "apart" "apart" (defArgs s_apart) (defBody s_apart) (defScope s_apart) .none kV7 dc7 pm7 an7 cd7 ct7), sl7⟩)
    (c7 : PySem.W.codeIn K cd7 "apart" = true)
    (k7 : PySem.W.keepIn K (.ref f7) = true)
    (a8 : PySem.W.nsIn K mainGlobals "_law_start" = some (some (.ref f8)))
    (l8 : K.lookup f8 = some ⟨oc8, od8, .func (PySem.W.fnOf "_law_start" "_law_start" (defArgs s__law_start) (defBody s__law_start) (defScope s__law_start) .none kV8 dc8 pm8 an8 cd8 ct8), sl8⟩)
    (c8 : PySem.W.codeIn K cd8 "_law_start" = true)
    (k8 : PySem.W.keepIn K (.ref f8) = true)
    (a9 : PySem.W.nsIn K mainGlobals "_law_drawn" = some (some (.ref f9)))
    (l9 : K.lookup f9 = some ⟨oc9, od9, .func (PySem.W.fnOf "_law_drawn" "_law_drawn" (defArgs s__law_drawn) (defBody s__law_drawn) (defScope s__law_drawn) .none kV9 dc9 pm9 an9 cd9 ct9), sl9⟩)
    (c9 : PySem.W.codeIn K cd9 "_law_drawn" = true)
    (k9 : PySem.W.keepIn K (.ref f9) = true)
    (a10 : PySem.W.nsIn K mainGlobals "_law_wheel" = some (some (.ref f10)))
    (l10 : K.lookup f10 = some ⟨oc10, od10, .func (PySem.W.fnOf "_law_wheel" "_law_wheel" (defArgs s__law_wheel) (defBody s__law_wheel) (defScope s__law_wheel) .none kV10 dc10 pm10 an10 cd10 ct10), sl10⟩)
    (c10 : PySem.W.codeIn K cd10 "_law_wheel" = true)
    (k10 : PySem.W.keepIn K (.ref f10) = true)
    (a11 : PySem.W.nsIn K mainGlobals "_law_looks" = some (some (.ref f11)))
    (l11 : K.lookup f11 = some ⟨oc11, od11, .func (PySem.W.fnOf "_law_looks" "_law_looks" (defArgs s__law_looks) (defBody s__law_looks) (defScope s__law_looks) .none kV11 dc11 pm11 an11 cd11 ct11), sl11⟩)
    (c11 : PySem.W.codeIn K cd11 "_law_looks" = true)
    (k11 : PySem.W.keepIn K (.ref f11) = true)
    (a12 : PySem.W.nsIn K mainGlobals "law" = some (some (.ref f12)))
    (l12 : K.lookup f12 = some ⟨oc12, od12, .func (PySem.W.fnOf "law" "law" (defArgs s_law) (defBody s_law) (defScope s_law) .none kV12 dc12 pm12 an12 cd12 ct12), sl12⟩)
    (c12 : PySem.W.codeIn K cd12 "law" = true)
    (k12 : PySem.W.keepIn K (.ref f12) = true)
    (g_MOST_WHEEL : PySem.W.nsIn K mainGlobals "MOST_WHEEL" = some (some (.int 1000000000000 t_MOST_WHEEL)))
    (z_ValueError : PySem.W.nsIn K mainGlobals "ValueError" = some none)
    (z_enumerate : PySem.W.nsIn K mainGlobals "enumerate" = some none)
    (z_range : PySem.W.nsIn K mainGlobals "range" = some none)
    (z_len : PySem.W.nsIn K mainGlobals "len" = some none)
    (z_sorted : PySem.W.nsIn K mainGlobals "sorted" = some none)
    (z_list : PySem.W.nsIn K mainGlobals "list" = some none)
    (z_min : PySem.W.nsIn K mainGlobals "min" = some none)
    (eg_BadWheel : PySem.W.nsIn K mainGlobals "BadWheel" = some (some (.ref C_BadWheel)))
    (ex_BadWheel : PySem.W.excIn K C_BadWheel [.type "ValueError", .type "Exception", .type "BaseException", .type "object"] "ValueError.__new__" = true)
    (ek_BadWheel : PySem.W.keepIn K (.ref C_BadWheel) = true)
    (eb_BadWheel : PySem.W.subIn K (.ref C_BadWheel) (.type "BaseException") = some true)
    (et_BadWheel : PySem.W.typeIn K (.ref C_BadWheel) = some (.type "type"))
    (eg_BadSeen : PySem.W.nsIn K mainGlobals "BadSeen" = some (some (.ref C_BadSeen)))
    (ex_BadSeen : PySem.W.excIn K C_BadSeen [.type "ValueError", .type "Exception", .type "BaseException", .type "object"] "ValueError.__new__" = true)
    (ek_BadSeen : PySem.W.keepIn K (.ref C_BadSeen) = true)
    (eb_BadSeen : PySem.W.subIn K (.ref C_BadSeen) (.type "BaseException") = some true)
    (et_BadSeen : PySem.W.typeIn K (.ref C_BadSeen) = some (.type "type"))
    (eg_BadGaps : PySem.W.nsIn K mainGlobals "BadGaps" = some (some (.ref C_BadGaps)))
    (ex_BadGaps : PySem.W.excIn K C_BadGaps [.type "ValueError", .type "Exception", .type "BaseException", .type "object"] "ValueError.__new__" = true)
    (ek_BadGaps : PySem.W.keepIn K (.ref C_BadGaps) = true)
    (eb_BadGaps : PySem.W.subIn K (.ref C_BadGaps) (.type "BaseException") = some true)
    (et_BadGaps : PySem.W.typeIn K (.ref C_BadGaps) = some (.type "type"))
    (eg_BadLong : PySem.W.nsIn K mainGlobals "BadLong" = some (some (.ref C_BadLong)))
    (ex_BadLong : PySem.W.excIn K C_BadLong [.type "ValueError", .type "Exception", .type "BaseException", .type "object"] "ValueError.__new__" = true)
    (ek_BadLong : PySem.W.keepIn K (.ref C_BadLong) = true)
    (eb_BadLong : PySem.W.subIn K (.ref C_BadLong) (.type "BaseException") = some true)
    (et_BadLong : PySem.W.typeIn K (.ref C_BadLong) = some (.type "type"))
    (eg_WrapError : PySem.W.nsIn K mainGlobals "WrapError" = some (some (.ref C_WrapError)))
    (ex_WrapError : PySem.W.excIn K C_WrapError [.type "ValueError", .type "Exception", .type "BaseException", .type "object"] "ValueError.__new__" = true)
    (ek_WrapError : PySem.W.keepIn K (.ref C_WrapError) = true)
    (eb_WrapError : PySem.W.subIn K (.ref C_WrapError) (.type "BaseException") = some true)
    (et_WrapError : PySem.W.typeIn K (.ref C_WrapError) = some (.type "type")) :
    ∃ fd : FuncData, (∀ (s : Shared) (v : Value), BindsTo s fd ⟨[v], []⟩ [("_law_script", v)]) ∧ ∀ base : Heap, K.In base → base.Ns mainGlobals mg → FnOk l.prog w K mg base (L2.CX l.prog w) 5 fa fd ["_law_script"] (sp_law K) := by
  have T : Txt K mg ⟨C_BadWheel, 0, C_BadSeen, C_BadGaps, 0, C_BadLong, 0, 0, C_WrapError⟩ := { g_MOST_WHEEL := ⟨_, PySem.W.mg_of X G g_MOST_WHEEL⟩, ValueError := PySem.W.mg_none_of X G z_ValueError, enumerate := PySem.W.mg_none_of X G z_enumerate, range := PySem.W.mg_none_of X G z_range, len := PySem.W.mg_none_of X G z_len, sorted := PySem.W.mg_none_of X G z_sorted, list := PySem.W.mg_none_of X G z_list, min := PySem.W.mg_none_of X G z_min, x_BadWheel := ⟨PySem.W.mg_of X G eg_BadWheel, ex_BadWheel, ek_BadWheel, eb_BadWheel, et_BadWheel⟩, x_BadSeen := ⟨PySem.W.mg_of X G eg_BadSeen, ex_BadSeen, ek_BadSeen, eb_BadSeen, et_BadSeen⟩, x_BadGaps := ⟨PySem.W.mg_of X G eg_BadGaps, ex_BadGaps, ek_BadGaps, eb_BadGaps, et_BadGaps⟩, x_BadLong := ⟨PySem.W.mg_of X G eg_BadLong, ex_BadLong, ek_BadLong, eb_BadLong, et_BadLong⟩, x_WrapError := ⟨PySem.W.mg_of X G eg_WrapError, ex_WrapError, ek_WrapError, eb_WrapError, et_WrapError⟩ }
  have e := hfa.symm.trans (PySem.W.mg_of X G a12)
  cases e
  refine ⟨PySem.W.fnOf "law" "law" (defArgs s_law) (defBody s_law) (defScope s_law) .none kV12 dc12 pm12 an12 cd12 ct12, fun s v => .of_eq rfl, fun base hK hM => ?_⟩
  have F := fun_mk (st := s_law) l12 c12 k12
  have D_is_wheel : Fn K mg "is_wheel" s_is_wheel := ⟨f0, _, fun_mk (st := s_is_wheel) l0 c0 k0, PySem.W.mg_of X G a0⟩
  have D_need_wheel : Fn K mg "need_wheel" s_need_wheel := ⟨f1, _, fun_mk (st := s_need_wheel) l1 c1 k1, PySem.W.mg_of X G a1⟩
  have D_need_seen : Fn K mg "need_seen" s_need_seen := ⟨f2, _, fun_mk (st := s_need_seen) l2 c2 k2, PySem.W.mg_of X G a2⟩
  have D_since_of : Fn K mg "since_of" s_since_of := ⟨f3, _, fun_mk (st := s_since_of) l3 c3 k3, PySem.W.mg_of X G a3⟩
  have D_need_long : Fn K mg "need_long" s_need_long := ⟨f4, _, fun_mk (st := s_need_long) l4 c4 k4, PySem.W.mg_of X G a4⟩
  have D_over : Fn K mg "over" s_over := ⟨f5, _, fun_mk (st := s_over) l5 c5 k5, PySem.W.mg_of X G a5⟩
  have D_first_over : Fn K mg "first_over" s_first_over := ⟨f6, _, fun_mk (st := s_first_over) l6 c6 k6, PySem.W.mg_of X G a6⟩
  have D_apart : Fn K mg "apart" s_apart := ⟨f7, _, fun_mk (st := s_apart) l7 c7 k7, PySem.W.mg_of X G a7⟩
  have D__law_start : Fn K mg "_law_start" s__law_start := ⟨f8, _, fun_mk (st := s__law_start) l8 c8 k8, PySem.W.mg_of X G a8⟩
  have D__law_drawn : Fn K mg "_law_drawn" s__law_drawn := ⟨f9, _, fun_mk (st := s__law_drawn) l9 c9 k9, PySem.W.mg_of X G a9⟩
  have D__law_wheel : Fn K mg "_law_wheel" s__law_wheel := ⟨f10, _, fun_mk (st := s__law_wheel) l10 c10 k10, PySem.W.mg_of X G a10⟩
  have D__law_looks : Fn K mg "_law_looks" s__law_looks := ⟨f11, _, fun_mk (st := s__law_looks) l11 c11 k11, PySem.W.mg_of X G a11⟩
  have c_is_wheel := ok_is_wheel (P := l.prog) (w := w) (base := base) T D_is_wheel 
  have c_need_wheel := ok_need_wheel (P := l.prog) (w := w) (base := base) T D_need_wheel c_is_wheel
  have c_need_seen := ok_need_seen (P := l.prog) (w := w) (base := base) T D_need_seen 
  have c_since_of := ok_since_of (P := l.prog) (w := w) (base := base) T D_since_of 
  have c_need_long := ok_need_long (P := l.prog) (w := w) (base := base) T D_need_long c_need_wheel
  have c_over := ok_over (P := l.prog) (w := w) (base := base) T D_over c_need_long c_need_seen c_since_of
  have c_first_over := ok_first_over (P := l.prog) (w := w) (base := base) T D_first_over c_need_long
  have c_apart := ok_apart (P := l.prog) (w := w) (base := base) T D_apart c_need_long
  have c__law_start := ok_start (P := l.prog) (w := w) (base := base) T D__law_start 
  have c__law_drawn := ok_drawn (P := l.prog) (w := w) (base := base) T D__law_drawn 
  have c__law_wheel := ok_wheel (P := l.prog) (w := w) (base := base) T D__law_wheel c__law_drawn
  have c__law_looks := ok_looks (P := l.prog) (w := w) (base := base) T D__law_looks c__law_drawn
  exact ok_law T F c__law_start c__law_drawn c__law_wheel c__law_looks c_apart c_first_over c_over
end
end My
open PySem PySem.W PyProof.Rows
set_option maxRecDepth 100000 in
set_option maxHeartbeats 0 in
theorem PySem.Challenge.cw_wraptime_k12_whole_never_missed_holds : PySem.Challenge.rw_wraptime_k12_whole_never_missed.Holds := by
  w_on; o_law; k_head; (case hw => w_witness2)
  k_fill
  refine My.walk (l := PySem.Challenge.rw_wraptime_k12_whole_never_missed) (k := 5) rfl rfl (by exact ⟨rfl, by decide, by decide⟩) (fun w h Y => PySem.W.kIn_of Y) ?F
  case F =>
    intro w mg fa h KX G hmg
    refine' My.all_mk KX G hmg ?a0 ?l0 ?c0 ?k0 ?a1 ?l1 ?c1 ?k1 ?a2 ?l2 ?c2 ?k2 ?a3 ?l3 ?c3 ?k3 ?a4 ?l4 ?c4 ?k4 ?a5 ?l5 ?c5 ?k5 ?a6 ?l6 ?c6 ?k6 ?a7 ?l7 ?c7 ?k7 ?a8 ?l8 ?c8 ?k8 ?a9 ?l9 ?c9 ?k9 ?a10 ?l10 ?c10 ?k10 ?a11 ?l11 ?c11 ?k11 ?a12 ?l12 ?c12 ?k12 ?g_MOST_WHEEL ?z_ValueError ?z_enumerate ?z_range ?z_len ?z_sorted ?z_list ?z_min ?eg_BadWheel ?ex_BadWheel ?ek_BadWheel ?eb_BadWheel ?et_BadWheel ?eg_BadSeen ?ex_BadSeen ?ek_BadSeen ?eb_BadSeen ?et_BadSeen ?eg_BadGaps ?ex_BadGaps ?ek_BadGaps ?eb_BadGaps ?et_BadGaps ?eg_BadLong ?ex_BadLong ?ek_BadLong ?eb_BadLong ?et_BadLong ?eg_WrapError ?ex_WrapError ?ek_WrapError ?eb_WrapError ?et_WrapError
    (case a0 => k_is)
    (case l0 => k_is)
    (case c0 => k_is)
    (case k0 => k_is)
    (case a1 => k_is)
    (case l1 => k_is)
    (case c1 => k_is)
    (case k1 => k_is)
    (case a2 => k_is)
    (case l2 => k_is)
    (case c2 => k_is)
    (case k2 => k_is)
    (case a3 => k_is)
    (case l3 => k_is)
    (case c3 => k_is)
    (case k3 => k_is)
    (case a4 => k_is)
    (case l4 => k_is)
    (case c4 => k_is)
    (case k4 => k_is)
    (case a5 => k_is)
    (case l5 => k_is)
    (case c5 => k_is)
    (case k5 => k_is)
    (case a6 => k_is)
    (case l6 => k_is)
    (case c6 => k_is)
    (case k6 => k_is)
    (case a7 => k_is)
    (case l7 => k_is)
    (case c7 => k_is)
    (case k7 => k_is)
    (case a8 => k_is)
    (case l8 => k_is)
    (case c8 => k_is)
    (case k8 => k_is)
    (case a9 => k_is)
    (case l9 => k_is)
    (case c9 => k_is)
    (case k9 => k_is)
    (case a10 => k_is)
    (case l10 => k_is)
    (case c10 => k_is)
    (case k10 => k_is)
    (case a11 => k_is)
    (case l11 => k_is)
    (case c11 => k_is)
    (case k11 => k_is)
    (case a12 => k_is)
    (case l12 => k_is)
    (case c12 => k_is)
    (case k12 => k_is)
    (case g_MOST_WHEEL => k_is)
    (case z_ValueError => k_is)
    (case z_enumerate => k_is)
    (case z_range => k_is)
    (case z_len => k_is)
    (case z_sorted => k_is)
    (case z_list => k_is)
    (case z_min => k_is)
    (case eg_BadWheel => k_is)
    (case ex_BadWheel => k_exc)
    (case ek_BadWheel => k_is)
    (case eb_BadWheel => k_is)
    (case et_BadWheel => k_is)
    (case eg_BadSeen => k_is)
    (case ex_BadSeen => k_exc)
    (case ek_BadSeen => k_is)
    (case eb_BadSeen => k_is)
    (case et_BadSeen => k_is)
    (case eg_BadGaps => k_is)
    (case ex_BadGaps => k_exc)
    (case ek_BadGaps => k_is)
    (case eb_BadGaps => k_is)
    (case et_BadGaps => k_is)
    (case eg_BadLong => k_is)
    (case ex_BadLong => k_exc)
    (case ek_BadLong => k_is)
    (case eb_BadLong => k_is)
    (case et_BadLong => k_is)
    (case eg_WrapError => k_is)
    (case ex_WrapError => k_exc)
    (case ek_WrapError => k_is)
    (case eb_WrapError => k_is)
    (case et_WrapError => k_is)

