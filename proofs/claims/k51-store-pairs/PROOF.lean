import PyProof.Rows.All
import Wide.All
import OpenK.AllK
import Wide.FinOn
import KE.KStateDown
import KE.KExcSuper
import HandS.ForMost
import HandS.ForExc
import HandS.More
import HandS.Defaults
import HandS.Wide
import HandS.ExcCtx
import HandS.HotCalls
import HandS.IsInst
import HandS.ListItems
import HandS.ExcIs
import HandS.ExcField
import HandS.Head0
import HandS.Head1
import HandS.Head2
import HandS.HeadEnd
import HandS.HeadHook1
import HandS.HeadHook2
import KE.KOpsOwn
import KE.KExcIs
import HandS.OwnEq
import KE.KOwnIter
import KE.KDictIter
import KE.KItemsList
import PySem.Challenge.RW_slotlag_k51_store_pairs
set_option Elab.async false
set_option linter.all false
set_option maxRecDepth 100000
set_option maxHeartbeats 4000000
namespace U
open PySem PySem.Spec PyProof.Rows L2
abbrev St := L2.St

/-! ### a def of the module, by its promise -/
def Fn (P : Program) (w : World) (K : PySem.W.Frag) (mg : Str → Option Value) (base : Heap) (x : Str) (k : Nat) (sp : Sp) : Prop :=
  ∃ (f : Addr) (fd : FuncData) (ps : List Str), mg x = some (.ref f) ∧ PySem.W.keepIn K (.ref f) = true ∧ Binds K fd ps [] ∧ FnOk P w K mg base (L2N.CX P w) k f fd ps sp
section
variable {X : Cx} {k : Nat} {sp : Sp} {x : Str} {p pos : Pos} {e : Expr} {es : List Expr} {t : TA} {W : WX}
theorem pe_fn (F : Fn X.prog X.w X.K X.mg X.base x k sp) (hr : Room k X.A) (tk : L2N.Takes X W) (ha : PA X (e :: es) t) (hg : Gl X x := by rfl) (hdb : (x == ("__debug__" : Str)) = false := by decide)
    (he : starEach (e :: es) X.env = (false, eval e X.env) :: starEach es X.env := by rfl) (hpl : (backTo pos (starEach es X.env)).any (·.1) = false := by rfl) :
    PE X (.Call (.Name x p) (e :: es) [] pos) (tCallS sp (WE W) t) := by
  obtain ⟨f, fd, ps, h1, h2, h3, h4⟩ := F
  exact pe_callS h4 hr hg h1 h2 h3 (fun σ => L2N.passAt tk σ) ha hdb he hpl
end
section
variable {P : Program} {w : World} {K : PySem.W.Frag} {mg : Str → Option Value} {base : Heap}
theorem fn_mk {x qual : Str} {params : Arguments} {body : List Stmt} {scope : Scope} {f : Addr} {fd : FuncData} {N ps : List Str} {k : Nat} {sp : Sp} (F : FunD K x qual params body scope [] [] f fd) (hm : mg x = some (.ref f)) (S : FnScope N ps scope)
    (hb : ∀ (kV doc pm : Value) (an : Option Addr) (cdv ct : Value) (us : List Value), us.length = ps.length → bindArgs (PySem.W.fnOf x qual params body scope .none kV doc pm an cdv ct) ⟨us, []⟩ = pure (ps.zip us))
    (len : ∀ vs H Q E, sp vs H Q E → vs.length = ps.length) {t : WX → TS}
    (hd : ∀ (cdv : Value) (A : Around) (outer : List Env) (s : Shared) (H : Hp) (E : XK) (W : WX), Room k (A.deeper (envOfC qual scope s.heap.objs.size f cdv)) →
      L2N.Takes (cxOf (L2N.CX P w) P w K mg base N qual scope f cdv A outer s H E) W → PSs (cxOf (L2N.CX P w) P w K mg base N qual scope f cdv A outer s H E) body (t W))
    (hp : ∀ vs H Q E, sp vs H Q E → t (fun cls d _ H => E cls d H) { nx := fun _ H' => Q .non H', rt := Q } (start N vs) H) : Fn P w K mg base x (k + 1) sp :=
  ⟨f, fd, ps, hm, F.kp, F.bindsN hb, F.ok S len fun cdv A outer s H vs Q E hr h => ⟨_, hd cdv A outer s H E _ hr (L2N.takes_of rfl rfl rfl rfl), hp vs H Q E h⟩⟩
end

/-! ### reading steps -/
section
variable {σ : St} {H : Hp} {Q : VK} {D : Ends}
theorem s_var {i : Nat} {v : V} (e : σ[i]? = some (some v)) (q : Q v H) : tVar i σ H Q := ⟨v, e, q⟩
theorem s_c {v : V} (q : Q v H) : tC v σ H Q := q
theorem s_op {r : R2} {ta tb : TE} (q : ta σ H fun x H1 => tb σ H1 fun y H2 => r x y H2 Q) : tOp r ta tb σ H Q := q
theorem s_nil {Q : List V → Hp → Prop} (q : Q [] H) : tNil σ H Q := q
theorem s_cons {te : TE} {t : TA} {Q : List V → Hp → Prop} (q : te σ H fun x H1 => t σ H1 fun ys H2 => Q (x :: ys) H2) : tCons te t σ H Q := q
theorem s_call {sp : Sp} {E : St → XK} {t : TA} (q : t σ H fun vs H1 => sp vs H1 Q (E σ)) : tCallS sp E t σ H Q := q
theorem s_seq {t u : TS} (q : t { D with nx := u D } σ H) : tSeq t u D σ H := q
theorem s_ret {te : TE} (q : te σ H D.rt) : tRet te D σ H := q
theorem s_asg {te : TE} {g : TG} (q : te σ H fun x H1 => g x σ H1 D.nx) : tAsg te g D σ H := q
theorem s_gname {i : Nat} {v : V} {R : St → Hp → Prop} (q : R (σ.set i (some v)) H) : gName i v σ H R := q
theorem s_if {c : TT} {t u : TS} (q : c σ H fun b H1 => if b = true then t D σ H1 else u D σ H1) : tIfS c t u D σ H := q
theorem s_drop {te : TE} (q : te σ H fun _ H1 => D.nx σ H1) : tDrop te D σ H := q
theorem s_next (q : D.nx σ H) : tNext D σ H := q
theorem s_test {t : TE} {Q : Bool → Hp → Prop} (q : t σ H fun x H' => ∃ k, x = .bl k ∧ Q k H') : tTest t σ H Q := q
theorem s_bl {c : Bool} {Q : Bool → Prop} (q : Q c) : ∃ k, V.bl c = .bl k ∧ Q k := ⟨c, rfl, q⟩
theorem s_i0 {g : Int → Int → V} {i j : Int} (q : Q (g i j) H) : rI0 g (.int i) (.int j) H Q := ⟨i, j, rfl, rfl, q⟩
theorem s_ic {C : Int → Int → Prop} {g : Int → Int → V} {i j : Int} (c : C i j) (q : Q (g i j) H) : rI C g (.int i) (.int j) H Q := ⟨i, j, rfl, rfl, c, q⟩
end
end U


set_option maxHeartbeats 4000000
namespace U
open PySem PySem.Spec PyProof.Rows L2

/-- the built-in names that the module leaves alone -/
structure Blt (mg : Str → Option Value) : Prop where
  int_ : mg "int" = none
  len_ : mg "len" = none
  range_ : mg "range" = none
  list_ : mg "list" = none
  isinstance_ : mg "isinstance" = none
  tuple_ : mg "tuple" = none
  dict_ : mg "dict" = none
  str_ : mg "str" = none
  bool_ : mg "bool" = none

/-! ### readings by name -/
abbrev qAddI : R2 := rI0 fun i j => .int (i + j)
abbrev qSubI : R2 := rI0 fun i j => .int (i - j)
abbrev qMulI : R2 := rI CMul fun i j => .int (i * j)
abbrev qModI : R2 := rI (fun _ j => 0 < j) fun i j => .int (i % j)
abbrev qDivI : R2 := rI CDivW fun i j => .int (i / j)
abbrev qPowI : R2 := rI CPow fun i j => .int (i ^ j.toNat)
abbrev qLt : R2 := rI0 fun i j => .bl (decide (i < j))
abbrev qLe : R2 := rI0 fun i j => .bl (decide (i ≤ j))
abbrev qGt : R2 := rI0 fun i j => .bl (decide (j < i))
abbrev qGe : R2 := rI0 fun i j => .bl (decide (j ≤ i))
abbrev qAddS : R2 := fun x y H Q => ∃ i j, x = .str i ∧ y = .str j ∧ i.length + j.length ≤ sizeLine ∧ Q (.str (i ++ j)) H
abbrev qIsN : R2 := fun x y H Q => y = .non ∧ Q (.bl (decide (x = .non))) H
abbrev qNotN : R2 := fun x y H Q => y = .non ∧ Q (.bl (!decide (x = .non))) H
abbrev qLen (K : PySem.W.Frag) : List V → Hp → VK → Prop := fun xs H Q => ∃ x n, xs = [x] ∧ LenV K x H n ∧ Q (.int n) H
abbrev qInt1 : List V → Hp → VK → Prop := fun xs H Q => (∃ i, xs = [.int i] ∧ Q (.int i) H) ∨ ∃ k, xs = [.bl k] ∧ Q (.int (if k then 1 else 0)) H
abbrev qListOf (K : PySem.W.Frag) : List V → Hp → VK → Prop := fun xs H Q => ∃ p ys, xs = [.ref p] ∧ (SqL K H p ys ∨ SqT K H p ys) ∧ ∀ l, H l = none → Q (.ref l) (upd H l (.lst ys))
end U


set_option maxHeartbeats 4000000
namespace U
open PySem PySem.Spec PyProof.Rows L2
/-! ### reading steps, more -/
section
variable {K : PySem.W.Frag} {σ : St} {H : Hp} {Q : VK} {D : Ends} {R : St → Hp → Prop}
theorem s_nx {u : St → Hp → Prop} {a b c} (q : u σ H) : (Ends.mk u a b c).nx σ H := q
theorem s_rt {u : VK} {v : V} {a b c} (q : u v H) : (Ends.mk a u b c).rt v H := q
theorem s_iteT {p A B : Prop} [Decidable p] (h : p) (q : A) : if (decide p) = true then A else B := by
  rw [if_pos (decide_eq_true h)]; exact q
theorem s_iteF {p A B : Prop} [Decidable p] (h : ¬ p) (q : B) : if (decide p) = true then A else B := by
  rw [decide_eq_false h]; exact q
theorem s_ite {p A B : Prop} [Decidable p] (h1 : p → A) (h2 : ¬ p → B) : if (decide p) = true then A else B := by
  by_cases h : p
  · rw [if_pos (decide_eq_true h)]; exact h1 h
  · rw [decide_eq_false h]; exact h2 h
theorem s_itt {A B : Prop} (q : A) : if true = true then A else B := q
theorem s_itf {A B : Prop} (q : B) : if false = true then A else B := by simpa using q
/-- a new object of n items -/
def rNew (n : Nat) (o : HO) (H : Hp) (R : Addr → Hp → Prop) : Prop := n ≤ sizeLine ∧ ∀ p, H p = none → R p (upd H p o)
theorem s_lst {t : TA} (q : t σ H fun xs H1 => rNew xs.length (.lst xs) H1 fun p H2 => Q (.ref p) H2) : tLst t σ H Q := q
theorem s_tup {t : TA} (q : t σ H fun xs H1 => rNew xs.length (.tup xs) H1 fun p H2 => Q (.ref p) H2) : tTup t σ H Q := q
/-- a new object: all that stood stands -/
theorem s_new {o : HO} {G : V → Hp → Prop} (q : ∀ p H1, H p = none → H1 p = some o → Same H H1 → G (.ref p) H1) : ∀ p, H p = none → G (.ref p) (upd H p o) :=
  fun p hp => q p _ hp upd_same fun b u e => by rw [upd_ne (ne_of_none e hp)]; exact e
theorem s_newL {n : Nat} {o : HO} {R : Addr → Hp → Prop} (hn : n ≤ 1000) (q : ∀ p H1, H p = none → H1 p = some o → Same H H1 → R p H1) : rNew n o H R :=
  ⟨Nat.le_trans hn (by decide), fun p hp => q p _ hp upd_same fun b u e => by rw [upd_ne (ne_of_none e hp)]; exact e⟩
theorem s_cb {r : List V → Hp → VK → Prop} {t : TA} (q : t σ H fun vs H1 => r vs H1 Q) : tCB r t σ H Q := q
theorem s_int {i : Int} (q : Q (.int i) H) : qInt1 [.int i] H Q := .inl ⟨i, rfl, q⟩
theorem s_ixl {p : Addr} {xs : List V} {i : Int} {v : V} (h : H p = some (.lst xs)) (e : atI xs i = some v) (q : Q v H) : rIxL K (.ref p) (.int i) H Q := ⟨p, xs, i, v, rfl, rfl, .inl (.inl h), e, q⟩
theorem s_lenl {p : Addr} {xs : List V} (h : H p = some (.lst xs)) (q : Q (.int xs.length) H) : qLen K [.ref p] H Q := ⟨_, _, rfl, .inl ⟨xs, .inl (.inl h), rfl⟩, q⟩
theorem s_sub {to ti : TE} {t : TSet} {v : V} (q : to σ H fun o H1 => ti σ H1 fun i H2 => t o i v H2 fun H3 => R σ H3) : gSub to ti t v σ H R := q
theorem same_get {H0 H1 : Hp} {x : Addr} {o : HO} (s : Same H0 H1) (e : H0 x = some o) : H1 x = some o := s x o e
theorem s_idx {z : Str} {i : Int} {c : Nat} (hz : z.length ≤ sizeLine) (e : atI z.cps.toList i = some c) (q : Q (.str ⟨#[c]⟩) H) : rIxS (.str z) (.int i) H Q := ⟨z, i, c, rfl, rfl, hz, e, q⟩
theorem s_eqI {i j : Int} (q : Q (.bl (decide (i = j))) H) : rEq (.int i) (.int j) H Q := ⟨rfl, by
  have e : decide (V.int i = V.int j) = decide (i = j) := by simp
  rw [e]; exact q⟩
theorem s_adds {a b : Str} (hz : a.length + b.length ≤ sizeLine) (q : Q (.str (a ++ b)) H) : qAddS (.str a) (.str b) H Q := ⟨a, b, rfl, rfl, hz, q⟩
theorem s_retD {te : TE} (q : te σ H D.rt) : tRet te D σ H := q
theorem s_or {t u : TT} {Q : Bool → Hp → Prop} (q : t σ H fun c H1 => if c = true then Q true H1 else u σ H1 Q) : tOr t u σ H Q := q
theorem s_and {t u : TT} {Q : Bool → Hp → Prop} (q : t σ H fun c H1 => if c = true then u σ H1 Q else Q false H1) : tAnd t u σ H Q := q
theorem s_notT {t : TT} {Q : Bool → Hp → Prop} (q : t σ H fun c H1 => Q (!c) H1) : tNot t σ H Q := q
end
/-! ### the draws -/
/-- all but s is as it was; new things may stand -/
def Ext (s : Addr) (H H' : Hp) : Prop := ∀ b o, H b = some o → b ≠ s → H' b = some o
theorem Ext.refl {s : Addr} {H : Hp} : Ext s H H := fun _ _ h _ => h
theorem Ext.trans {s : Addr} {H H1 H2 : Hp} (a : Ext s H H1) (b : Ext s H1 H2) : Ext s H H2 := fun c o h n => b c o (a c o h n) n
theorem Ext.of {s : Addr} {H H1 : Hp} (a : Same H H1) : Ext s H H1 := fun c o h _ => a c o h
theorem Ext.upd {s : Addr} {H : Hp} {o : HO} : Ext s H (upd H s o) := fun c u h n => by rw [upd_ne n]; exact h
theorem ext_get {s x : Addr} {H0 H1 : Hp} {o : HO} (e : Ext s H0 H1) (h : H0 x = some o) (n : x ≠ s) : H1 x = some o := e x o h n
theorem s_setl {H : Hp} {p : Addr} {xs : List V} {i : Int} {j : Nat} {v : V} {R : Hp → Prop} (h : H p = some (.lst xs)) (e : ixN xs.length i = some j) (q : ∀ H1, H1 p = some (.lst (xs.set j v)) → Ext p H H1 → R H1) : rSetL (.ref p) (.int i) v H R := ⟨p, xs, i, j, rfl, rfl, h, e, q _ upd_same Ext.upd⟩
/-- the state of the draws at s -/
def StAt (H : Hp) (s l : Addr) : Prop := ∃ (cells : List Int) (i b c k t : Int), H s = some (.lst [.ref l, .int i, .int b, .int c, .int k, .int t]) ∧ H l = some (.lst (cells.map V.int)) ∧ 0 ≤ i
theorem StAt.ne {H : Hp} {s l : Addr} {cells : List Int} {i b c k t : Int} (h : H s = some (.lst [.ref l, .int i, .int b, .int c, .int k, .int t])) (h' : H l = some (.lst (cells.map V.int))) : l ≠ s := by
  intro e
  rw [e, h] at h'
  cases cells with
  | nil => cases h'
  | cons x xs => cases h'
theorem StAt.same {H H' : Hp} {s l : Addr} (a : StAt H s l) (e : Same H H') : StAt H' s l := by
  obtain ⟨cells, i, b, c, k, t, h1, h2, h3⟩ := a
  exact ⟨cells, i, b, c, k, t, e _ _ h1, e _ _ h2, h3⟩
theorem atI_of {xs : List Int} {i : Int} (h0 : 0 ≤ i) (h : i.toNat < xs.length) : atI (xs.map V.int) i = some (.int xs[i.toNat]) := by
  unfold atI ixN
  rw [if_pos h0, List.length_map, if_pos (by omega)]
  simp [h]
end U


set_option maxHeartbeats 4000000
namespace UX
open PySem PySem.W PySem.Calls PyProof.Rows PySem.HandSPX
/-! ### own exceptions: class X(..): def __init__(self, f): super().__init__('..'); self.f = f -/
def xA (f : Str) (p1 p2 : Pos) : Arguments := { posonlyargs := [], args := [{ arg := "self", annotation := none, pos := p1 }, { arg := f, annotation := none, pos := p2 }], vararg := none, kwonlyargs := [], kw_defaults := [], kwarg := none, defaults := [] }
def xSup (msg : Str) (a0 a1 a2 a3 a4 a5 : Pos) : Stmt := .Expr (.Call (.Attribute (.Call (.Name "super" a0) [] [] a1) "__init__" a2) [.Constant (.str msg) 0 a3] [] a4) a5
def xSet (f : Str) (q1 q2 q3 q4 : Pos) : Stmt := .Assign [.Attribute (.Name "self" q1) f q2] (.Name f q3) q4
def xS (f : Str) : Scope := { kind := .function, names := [(PySem.Str.ofString "self", .local), (f, .local), (PySem.Str.ofString "__class__", .free), (PySem.Str.ofString "super", .globalImplicit)], isGenerator := false, isCoroutine := false, more := [] }
/-- what the written part says of the class at C; D: the class whose text __init__ is (C or above); fI its __init__ -/
structure XT (prog : Program) (K : Frag) (C D fI : Addr) (f : Str) : Prop where
  cls : ∃ nm q N bs bm sn sub ab col dd k0 k1 k2 k3 k5, K.lookup C = some (excClassObj nm q C N bs bm true sn sub ab col dd k0 k1 k2 k3 k5 "ValueError.__new__") ∧ refsVE bm = true
  sa : findIn K (.ref C) "__setattr__" = some (some (.builtin "object.__setattr__"))
  noN : findIn K (.ref C) f = some none
  iC : findIn K (.ref C) "__init__" = some (some (.ref fI))
  tC : typeIn K (.ref fI) = some (.type "function")
  kC : keepIn K (.ref C) = true
  exC : subIn K (.ref C) (.type "BaseException") = some true
  veC : subIn K (.ref C) (.type "ValueError") = some true
  tyC : typeIn K (.ref C) = some (.type "type")
  hdC : hasDictIn K C = true
  sup : ks_superIn K C D "__init__" = some (some (.builtin "ValueError.__init__"))
  ini : excInitIn K C veTail "ValueError.__new__" = true
  dcl : ∃ cd, clsIn K D = some cd
  dsub : mroIn K C (.ref D) = some true
  nsup : nsIn K mainGlobals "super" = some none
  thp : nsIn K cStatics "thirdparty.any" = some none
  fs : ¬ f = ("self" : Str)
  fc : ¬ f = ("__class__" : Str)
  fu : ¬ f = ("super" : Str)
  fd : ¬ f = ("__debug__" : Str)
  fn : ∃ (oc : Value) (od : Option Addr) (qual msg : Str) (doc pm : Value) (an : Option Addr) (cda cc : Addr) (ct : Value) (osl : Array (Option Value)) (p1 p2 a0 a1 a2 a3 a4 a5 q1 q2 q3 q4 : Pos),
    K.lookup fI = some ⟨oc, od, .func (ksFn "__init__" qual (xA f p1 p2) [xSup msg a0 a1 a2 a3 a4 a5, xSet f q1 q2 q3 q4] (xS f) .none .none doc pm an (.ref cda) ct cc), osl⟩ ∧ codeIn K (.ref cda) qual = true ∧
      (∃ pl : Env → Sem Bool, ∀ env : Env, eval (.Call (.Attribute (.Call (.Name "super" a0) [] [] a1) "__init__" a2) [.Constant (.str msg) 0 a3] [] a4) env = (do
        let ov ← attributeBase (.Call (.Name "super" a0) [] [] a1) "__init__" env (eval (.Call (.Name "super" a0) [] [] a1) env)
        standAt a2.atName
        let (f, first) ← holding [ov] (getMethod ov "__init__" (pl env))
        callWith a4 f first (backTo a4 (starEach [.Constant (.str msg) 0 a3] env)) [])) ∧
      (∃ (ccl : Value) (cdd : Option Addr) (vs : Array Value) (ccs : Array (Option Value)) (file : Str) (tf : Tok), K.lookup cda = some ⟨ccl, cdd, .fields vs, ccs⟩ ∧ vs[2]? = some (.str file tf) ∧ ((prog.main.file : Str) == file) = true) ∧
      (∃ (cl : Value) (cld : Option Addr) (csl : Array (Option Value)), K.lookup cc = some ⟨cl, cld, .cell (some (.ref D)), csl⟩)
  bnd : ∀ (qual : Str) (doc pm ct cdv v : Value) (an : Option Addr) (cc x : Addr) (p1 p2 : Pos) (body : List Stmt) (sc : Scope), bindArgs (ksFn "__init__" qual (xA f p1 p2) body sc .none .none doc pm an cdv ct cc) ⟨[.ref x, v], []⟩ = pure [(("self" : Str), .ref x), (f, v)]
  ptop : (prog.main.scope.names.lookup ("super" : Str)).isSome = false
theorem xk_self (f : Str) : (xS f).names.lookup ("self" : Str) = some NameKind.local := by
  show List.lookup (PySem.Str.ofString "self") ((PySem.Str.ofString "self", NameKind.local) :: _) = _
  simp [List.lookup]
theorem xk_f {f : Str} (h : ¬ f = ("self" : Str)) : (xS f).names.lookup f = some NameKind.local := by
  have e : (f == PySem.Str.ofString "self") = false := by simpa using h
  show List.lookup f ((PySem.Str.ofString "self", NameKind.local) :: (f, .local) :: _) = _
  simp [List.lookup, e]
theorem xk_c {f : Str} (h : ¬ f = ("__class__" : Str)) : (xS f).names.lookup ("__class__" : Str) = some NameKind.free := by
  have e : (PySem.Str.ofString "__class__" == f) = false := by simpa using fun z => h z.symm
  have e2 : (PySem.Str.ofString "__class__" == PySem.Str.ofString "self") = false := by decide +kernel
  show List.lookup (PySem.Str.ofString "__class__") ((PySem.Str.ofString "self", NameKind.local) :: (f, .local) :: (PySem.Str.ofString "__class__", .free) :: _) = _
  simp [List.lookup, e, e2]
theorem xk_s {f : Str} (h : ¬ f = ("super" : Str)) : (xS f).names.lookup ("super" : Str) = some NameKind.globalImplicit := by
  have e : (PySem.Str.ofString "super" == f) = false := by simpa using fun z => h z.symm
  have e2 : (PySem.Str.ofString "super" == PySem.Str.ofString "self") = false := by decide +kernel
  have e3 : (PySem.Str.ofString "super" == PySem.Str.ofString "__class__") = false := by decide +kernel
  show List.lookup (PySem.Str.ofString "super") ((PySem.Str.ofString "self", NameKind.local) :: (f, .local) :: (PySem.Str.ofString "__class__", .free) :: (PySem.Str.ofString "super", .globalImplicit) :: []) = _
  simp [List.lookup, e, e2, e3]
theorem one_sz (v : Value) : [v].length ≤ sizeLine := by
  rw [sizeLine_eq]
  exact (by decide : 1 ≤ 16777216)
/-- what __init__ leaves of a fresh exception at x -/
structure XEnd (h h' : Heap) (x C dx : Addr) (f : Str) (v : Value) : Prop where
  keep : ∀ b o, b ≠ x → h.get? b = some o → h'.get? b = some o
  obj : ∃ t1 : Addr, h'.get? x = some { cls := .ref C, dict := some dx, data := .fields #[.ref t1, .none, .none, .none, .bool false, .none] }
  dbig : h.objs.size ≤ dx
  dne : dx ≠ x
  ns : h'.Ns1 dx (fun y => if y = f then some v else none)
section
variable {prog : Program} {w : World} {A : Around} {E : Value → Shared → Prop} {R : Result → Shared → Prop} {s : Shared} {K : Frag} {mg mb : Str → Option Value} {C D fI : Addr} {f : Str}
theorem x_init (T : XT prog K C D fI f) {x t0 : Addr} {v : Value} (X : K.In s.heap) (hlim : s.heap.NoLimit) (G : s.heap.Ns mainGlobals mg) (hmg : mg "super" = none) (Bn : s.heap.Ns builtinsNs mb) (hmb : ∀ x : Str, x ≠ "__name__" → mb x = bootBuiltins x)
    (hx : s.heap.get? x = some (excO C t0)) (hnx : K.lookup x = none) (hroom : A.depth < recursionLimit)
    (hq : ∀ h' tk dx, XEnd s.heap h' x C dx f v → R (.ok (.ret .none)) { s with heap := h', toks := tk }) :
    codeAny (model prog w) A (.call (.ref fI) ⟨[.ref x, v], []⟩) R s := by
  obtain ⟨oc, od, qual, msg, doc, pm, an, cda, cc, ct, osl, p1, p2, a0, a1, a2, a3, a4, a5, q1, q2, q3, q4, ho, hcd, ⟨pl, hev⟩, ⟨ccl, cdd, vs, ccs, file, tf, hcda, hvs, hfile⟩, cl, cld, csl, hcc⟩ := T.fn
  obtain ⟨nm, q, N, bs, bm, sn, sub, ab, col, dd, k0, k1, k2, k3, k5, hC, hbm⟩ := T.cls
  obtain ⟨cdD, hD⟩ := T.dcl
  have hcl : clsIn K C = some { name := nm, bases := bs, mro := .ref C :: bm, ns := N, qualname := q, hasDict := true, slotNames := sn, subclasses := sub, abstract := ab, collection := col, hasDel := false } := by unfold clsIn; rw [hC] <;> rfl
  refine ks_codeAny_call_defAt (fd := ksFn "__init__" qual (xA f p1 p2) [xSup msg a0 a1 a2 a3 a4 a5, xSet f q1 q2 q3 q4] (xS f) .none .none doc pm an (.ref cda) ct cc) (binds := [(("self" : Str), .ref x), (f, v)]) hroom (X _ _ ho) rfl hlim (codeRec_of X hcd) rfl (BindsTo.of_eq (T.bnd ..)) ?hcell ?hloc (fun h₁ hns hk₁ => ?_)
  case hcell =>
    intro y hy
    have hy' : y ∈ (xS f).names := hy
    unfold xS at hy'
    simp at hy'
    rcases hy' with rfl | rfl | rfl | rfl <;> exact fun z => nomatch z
  case hloc =>
    intro y hy
    have hy' : y = (PySem.Str.ofString "self", Value.ref x) ∨ y = (f, v) := by simpa using hy
    rcases hy' with rfl | rfl
    · exact xk_self f
    · exact xk_f T.fs
  have X₁ : K.In h₁ := X.keeps hk₁
  have hx₁ := hk₁ _ _ hx
  have hboot : bootBuiltins "super" = some (.type "super") := by decide +kernel
  have esf : (("self" : Str) == f) = false := by simpa using fun z => T.fs z.symm
  have hself : (fun y : Str => List.lookup y [(("self" : Str), Value.ref x), (f, v)].reverse) "self" = some (.ref x) := by
    show List.lookup ("self" : Str) [(f, v), (("self" : Str), Value.ref x)] = _
    simp [List.lookup, esf]
  have hfv : (fun y : Str => List.lookup y [(("self" : Str), Value.ref x), (f, v)].reverse) f = some v := by
    show List.lookup f [(f, v), (("self" : Str), Value.ref x)] = _
    simp [List.lookup]
  have hdb : (f == ("__debug__" : Str)) = false := by simpa using T.fd
  obtain ⟨oD, hD1, hD2⟩ : ∃ oD, h₁.get? D = some oD ∧ oD.data = .cls cdD := by
    unfold clsIn at hD
    split at hD
    · rename_i c d cd' sl hh
      cases hD
      exact ⟨_, X₁ _ _ hh, rfl⟩
    · cases hD
  obtain ⟨hp, g, dr, tk0, os⟩ := s
  refine ks_wpAt_execs_cons (ks_wpAt_Expr_any ?_)
  refine ks_wpAt_MethodCall (pl := pl _) ?_ (hev _)
  refine ks_wpAt_super_base (xk_s T.fu) (xk_c T.fc) (by decide) rfl (X₁ _ _ ho) rfl rfl rfl (X₁ _ _ hcda) rfl hvs hfile T.ptop ?_
  refine ks_loadName_global rfl (xk_s T.fu) (loadGlobal_builtin (G.keeps hk₁) hmg (Bn.keeps hk₁) ((hmb _ (by decide +kernel)).trans hboot) ⟨rfl, ?_⟩)
  refine wpAny_loadName_free rfl (xk_c T.fc) rfl ⟨_, X₁ _ _ hcc, rfl⟩ ?_
  refine wpAny_loadName_local rfl (xk_self f) hns hself ?_
  refine ks_wpAny_isType_cls hD1 hD2 ⟨rfl, ?_⟩
  refine ks_wpAny_call_super hD1 hD2 hx₁ rfl (fun c z => nomatch z) (looks_mroIn X₁ T.dsub) (fun h2 e2 k2 => ?_)
  have X2 : K.In h2 := X₁.keeps k2
  have hx2 := k2 _ _ hx₁
  have I2 : InstAt h2 x (excO C t0) C none := ⟨hx2, rfl, rfl, trivial⟩
  have hsup := T.sup
  unfold ks_superIn at hsup
  rw [hcl] at hsup
  have hI : Looks (model prog w) h2 (isInstance (.ref x) (.type "ValueError")) true := I2.type.andThen (looks_subIn X2 T.veC)
  refine kxs_getMethod kxs_ValueError e2 (looks_opaque X2 T.thp) (l₀ := .ref C :: bm) (fun A Q E s k q => wpAny_bind ((looks_clsIn X2 hcl) A _ E s k (wpAny_pure q))) rfl X2 hsup hI (ks_ne X2 I2 hcl) (by decide) ?_
  have hu : (h2.push (kxs_mw "ValueError.__init__" x)).get? h2.objs.size = some (kxs_mw "ValueError.__init__" x) := Heap.get?_push_size h2 rfl
  have k3 : ∀ b o, h2.get? b = some o → (h2.push (kxs_mw "ValueError.__init__" x)).get? b = some o := fun b o e => Heap.get?_push_of_some _ e
  refine kxs_callWith (i := "ValueError.__init__") (x := x) rfl (evalArgs_plain ?_)
  show wpAny _ _ (spliced [(false, eval (.Constant (.str msg) 0 a3) _)]) _ _ _
  refine Calls.spliced_cons (Calls.Constant_str (Calls.spliced_nil ⟨hu, ?_⟩))
  obtain ⟨nm', N', qn', bs', bm', hdct', sn', sub', ab', col', dd', j0, j1, j2, j3, j5, hC', hT'⟩ := excInit_of (X2.keeps k3) T.ini
  refine wpAny_call (codeAny_of_tree ?_)
  show wpAny _ _ (callAny (.ref h2.objs.size) ⟨[.str msg _], []⟩) _ _ _
  simp only [callAny]
  refine wpAny_bind (wpAny_load hu ?_)
  simp only [kxs_mw, show (Value.type "method-wrapper" == Value.type "method" || Value.type "method-wrapper" == Value.type "builtin_function_or_method" || Value.type "method-wrapper" == Value.type "method-wrapper") = true by decide, if_true]
  refine KFB.if_so (by decide) ?_
  refine wpAny_bind (check_bound_init F.excBase_ValueError.toExcCallFacts hC' (k3 _ _ hx2) rfl ?_)
  refine wpAny_bind (wpAny_pure (wpAny_pure ?_))
  refine ⟨plainId_quiet F.excBase_ValueError.init.plain _, codeAny_builtin F.excBase_ValueError.initEntry ?_⟩
  refine exc_init_tree (cls := .ref C) (t0 := t0) (dv := none) (c2 := .none) (c3 := .none) (b4 := .bool false) (k3 _ _ hx2) (one_sz _) fun h4 k4 e4 t4 => ?_
  have xlt : x < hp.objs.size := Heap.lt_size hx
  obtain ⟨oL, esL, epL, hL, rL⟩ := hns
  have hn4 : h4.Ns hp.objs.size (fun y : Str => List.lookup y [(("self" : Str), Value.ref x), (f, v)].reverse) := ⟨oL, esL, epL, k4 _ _ (Ne.symm (Nat.ne_of_lt xlt)) (k3 _ _ (k2 _ _ hL)), rL⟩
  have X4 : K.In h4 := fun a o e => k4 a o (fun z => by rw [z, hnx] at e; cases e) (k3 _ _ (X2 a o e))
  show PySem.wpAt _ _ (Code.func [xSup msg a0 a1 a2 a3 a4 a5, xSet f q1 q2 q3 q4] (ksEnv qual (xS f) hp.objs.size fI (.ref cda) cc)) (execs [xSet f q1 q2 q3 q4] (ksEnv qual (xS f) hp.objs.size fI (.ref cda) cc)) _ _ _
  refine ks_wpAt_execs_cons (wpAt_of_wpAny (plainObj_wpAny_Assign_Attribute ?_))
  refine wpAny_Name (wpAny_loadName_local rfl (xk_f T.fs) hn4 hfv ?_) hdb
  refine wpAny_Name (wpAny_loadName_local rfl (xk_self f) hn4 hself ?_) (by decide)
  refine set_plain X4 (od := none) ⟨e4, rfl, rfl, trivial⟩ T.sa ?_
  refine exc_osa X4 e4 hcl (show refsVE (.ref C :: bm) = true from hbm) rfl T.noN (fun h5 tk5 dx k5 dn dne hx5 hn5 => ?_)
  show PySem.wpAt _ _ _ (execs [] _) _ _ _
  refine wpAt_of_wpAny (wpAny_execs_nil ?_)
  refine hq h5 tk5 dx ⟨fun b o hb e => k5 b o hb (k4 b o hb (k3 b o (k2 b o (hk₁ b o e)))), ⟨_, hx5⟩, ?_, dne, hn5⟩
  have l1 : hp.objs.size < h4.objs.size := hn4.lt
  exact Nat.le_trans (Nat.le_of_lt l1) dn
/-- a made exception -/
structure XMade (h h' : Heap) (e C d : Addr) (f : Str) (v : Value) : Prop where
  keep : ∀ b o, h.get? b = some o → h'.get? b = some o
  new : h.objs.size ≤ e
  obj : ∃ t1 : Addr, h'.get? e = some { cls := .ref C, dict := some d, data := .fields #[.ref t1, .none, .none, .none, .bool false, .none] }
  dbig : h.objs.size ≤ d
  dne : d ≠ e
  ns : h'.Ns1 d (fun y => if y = f then some v else none)
theorem x_made (T : XT prog K C D fI f) {v : Value} (X : K.In s.heap) (hlim : s.heap.NoLimit) (G : s.heap.Ns mainGlobals mg) (hmg : mg "super" = none) (Bn : s.heap.Ns builtinsNs mb) (hmb : ∀ x : Str, x ≠ "__name__" → mb x = bootBuiltins x) (hroom : A.depth + 1 < recursionLimit)
    (hq : ∀ h' tk e d, XMade s.heap h' e C d f v → R (.ok (.ret (.ref e))) { s with heap := h', toks := tk }) :
    codeAny (model prog w) A (.call (.ref C) ⟨[v], []⟩) R s := by
  obtain ⟨nm, q, N, bs, bm, sn, sub, ab, col, dd, k0, k1, k2, k3, k5, hC, hbm⟩ := T.cls
  obtain ⟨hp, g, dr, tk, os⟩ := s
  have k : ∀ b o, hp.get? b = some o → ((hp.push (kdv_tup [v])).push (excO C hp.objs.size)).get? b = some o := fun b o e => Heap.get?_push_of_some _ (Heap.get?_push_of_some _ e)
  have hget : ((hp.push (kdv_tup [v])).push (excO C hp.objs.size)).get? (hp.objs.size + 1) = some (excO C hp.objs.size) := by heap_get
  have hnx : K.lookup (hp.objs.size + 1) = none := by
    cases e : K.lookup (hp.objs.size + 1) with
    | none => rfl
    | some o =>
      have z : hp.get? (hp.objs.size + 1) = some o := X _ _ e
      exact absurd (Nat.lt_of_succ_lt (Heap.lt_size z)) (Nat.lt_irrefl _)
  refine call_own F.excBase_ValueError (fun X => refsVE_contains X bm hbm) (X _ _ hC) (looks_findIn X T.iC) (fun self => bind_fn X self T.tC) (one_sz v) ?_
  refine x_init (s := ⟨(hp.push (kdv_tup [v])).push (excO C hp.objs.size), g, dr, tk, os⟩) T (X.keeps k) (hlim.keeps k) (G.keeps k) hmg (Bn.keeps k) hmb hget hnx ?_ fun h' tk' dx ⟨k', hx, dn, dne, hns⟩ => ?_
  · show A.depth + 1 < recursionLimit
    exact hroom
  · have old : ∀ b o, hp.get? b = some o → h'.get? b = some o := fun b o e => k' b o (Nat.ne_of_lt (Nat.lt_succ_of_lt (Heap.lt_size e))) (k b o e)
    have z : hp.objs.size + 1 + 1 ≤ dx := by
      first
        | (simpa only [Heap.size_push] using dn)
        | exact dn
        | (have q := dn; rw [Heap.size_push, Heap.size_push] at q; exact q)
    exact ⟨rfl, hq h' tk' (hp.objs.size + 1) dx ⟨old, Nat.le_succ _, hx, Nat.le_trans (Nat.le_trans (Nat.le_succ _) (Nat.le_succ _)) z, dne, hns⟩⟩
end
end UX
namespace U
open PySem PySem.Spec PyProof.Rows L2
theorem relO_one {f : Str} {v : V} {v' : Value} (r : RelV v v') (g : Str) : RelO (List.lookup g [(f, v)]) (if g = f then some v' else none) := by
  by_cases hw : g = f
  · subst hw
    rw [if_pos rfl]
    have q : List.lookup g [(g, v)] = some v := by simp [List.lookup]
    rw [q]
    exact r
  · rw [if_neg hw]
    have qw : (g == f) = false := by simpa using hw
    have q2 : List.lookup g [(f, v)] = none := by simp [List.lookup, qw]
    rw [q2]
    trivial
/-- X(e), as an exception that is made -/
def tMkX (C : Addr) (f : Str) (t : TA) : St → Hp → XK → Prop := fun σ H Q => t σ H fun vs H1 => ∃ v, vs = [v] ∧ ∀ d, H1 d = none → Q (.ref C) (some d) (upd H1 d (.xd [(f, v)]))
section
variable {X : Cx} {C D fI : Addr} {f : Str}
theorem pmk_x {x : Str} {a : Expr} {t : TA} {p pos : Pos} {k : Nat} (T : UX.XT X.prog X.K C D fI f) (gC : X.mg x = some (.ref C)) (hmg : X.mg "super" = none) (hr : Room k X.A) (ha : PA X [a] t) (hg : Gl X x := by rfl) (hdb : (x == ("__debug__" : Str)) = false := by decide)
    (he : starEach (a :: []) X.env = (false, eval a X.env) :: starEach [] X.env := by rfl) (hpl : (backTo pos (starEach [] X.env)).any (·.1) = false := by rfl) :
    L2N.PMk X (.Call (.Name x p) [a] [] pos) (tMkX C f t) := by
  intro pins s σ H Q I h
  refine wpAny_Call_Name_kw (ld_glob I hg gC ?_ hdb)
  refine PySem.W.callWith_K (h₀ := X.base) I.ok.mod.kin T.kC (thn (ha.run pos pins s σ H _ I h) fun us s1 hh => ?_) he hpl
  obtain ⟨vs, H1, I1, r1, v, ev, q1⟩ := hh
  subst ev
  refine ⟨I1.kIn, ?_⟩
  cases r1 with
  | cons rv rn =>
    rename_i v' us'
    cases rn
    show wpAny _ _ (call (.ref C) [v']) _ _ _
    have hlim := I1.nolimit
    have hG : s1.heap.Ns mainGlobals X.mg := I1.mod.glob.keeps I1.bk
    obtain ⟨mb, b1, b2⟩ := I1.mod.blt
    have hB : s1.heap.Ns builtinsNs mb := b1.keeps I1.bk
    obtain ⟨hp, g, d, tk, os⟩ := s1
    refine wpAny_call (UX.x_made T I1.kIn hlim hG hmg hB b2 (by have := hr.dp; omega) fun h' tk' e d M => ?_)
    show L2N.MkP X pins σ Q (.ref e) ⟨h', g, _, tk', os⟩
    obtain ⟨t1, hoe⟩ := M.obj
    have hns := M.ns
    obtain ⟨G', g1, g2⟩ := restrict h' fun b => decide (b ≠ e)
    have gk : ∀ b, b ≠ e → G'.get? b = h'.get? b := fun b hb => g1 b (decide_eq_true hb)
    have ge : G'.get? e = none := g2 e (by simp)
    have old : ∀ b o, hp.get? b = some o → G'.get? b = some o := fun b o q => (gk b (Nat.ne_of_lt (Nat.lt_of_lt_of_le (Heap.lt_size q) M.new))).trans (M.keep b o q)
    have ob : ObjOk X.prog X.w (upd H1 d (.xd [(f, v)])) G' d (.xd [(f, v)]) :=
      ⟨_, hns.at (fun o q => (gk d M.dne).trans q), fun y => relO_one rv y⟩
    have J : Inv X pins σ (upd H1 d (.xd [(f, v)])) ⟨G', g, _, tk', os⟩ := I1.laid (t' := tk') old M.dbig ob
    refine ⟨e, _, _, ⟨G', g, _, tk', os⟩, _, .ref C, some d, rfl, J, fun b o q => ?_, ge, hoe, ⟨rfl, rfl, fun vs z => by cases z; rfl⟩, rfl, rfl, ?_, rfl, I1.bare, raises_own T.exC T.tyC, q1 d (I1.hok.fresh M.dbig)⟩
    · by_cases hb : b = e
      · have q' : G'.get? b = some o := q
        rw [hb, ge] at q'; cases q'
      · exact (gk b hb).symm.trans q
    · rw [upd_ne (Ne.symm M.dne)]
      exact I1.hok.fresh M.new
/-- raise X(e) -/
def tRaiseX (C : Addr) (f : Str) (W : WX) (t : TA) : TS := fun _ σ H => tMkX C f t σ H fun cls d H' => W cls d σ H'
theorem ps_raiseX {x : Str} {a : Expr} {t : TA} {W : WX} {p pos pos2 : Pos} {k : Nat} (hc : X.calm = true) (T : UX.XT X.prog X.K C D fI f) (gC : X.mg x = some (.ref C)) (hmg : X.mg "super" = none) (hr : Room k X.A) (tk : L2N.Takes X W) (ha : PA X [a] t) (hg : Gl X x := by rfl) (hdb : (x == ("__debug__" : Str)) = false := by decide)
    (he : starEach (a :: []) X.env = (false, eval a X.env) :: starEach [] X.env := by rfl) (hpl : (backTo pos (starEach [] X.env)).any (·.1) = false := by rfl) :
    PS X (.Raise (some (.Call (.Name x p) [a] [] pos)) none pos2) (tRaiseX C f W t) := L2N.ps_raise hc tk (pmk_x T gC hmg hr ha hg hdb he hpl)
end
end U


set_option maxHeartbeats 4000000
namespace U
open PySem PySem.Spec PyProof.Rows L2

/-! ### attributes: names ks, values vs -/
/-- the values behind a store of the i-th name -/
def setV (vs : List V) (i : Nat) (y : V) : List V := if i < vs.length then vs.set i y else vs ++ [y]
theorem zip_lookup {f : Str} : ∀ {ks : List Str} {vs : List V} {i : Nat} {v : V}, ks.Nodup → ks[i]? = some f → vs[i]? = some v → (ks.zip vs).lookup f = some v
  | [], _, _, _, _, h, _ => by simp at h
  | _ :: _, [], _, _, _, _, h => by simp at h
  | k :: ks, w :: vs, 0, v, nd, h1, h2 => by
    simp at h1 h2
    subst h1 h2
    simp [List.zip, List.lookup]
  | k :: ks, w :: vs, i + 1, v, nd, h1, h2 => by
    have hk : ks[i]? = some f := by simpa using h1
    have ne : (f == k) = false := by
      have hm := List.mem_of_getElem? hk
      have := (List.nodup_cons.mp nd).1
      simp only [beq_eq_false_iff_ne]
      rintro rfl
      exact this hm
    show List.lookup f ((k, w) :: ks.zip vs) = _
    simp only [List.lookup, ne]
    exact zip_lookup (i := i) (List.nodup_cons.mp nd).2 hk (by simpa using h2)
theorem zip_none {f : Str} : ∀ {ks : List Str} {vs : List V}, f ∉ ks → (ks.zip vs).lookup f = none
  | [], _, _ => by simp
  | _ :: _, [], _ => by simp
  | k :: ks, w :: vs, h => by
    have ne : (f == k) = false := by
      simp only [beq_eq_false_iff_ne]
      rintro rfl
      exact h List.mem_cons_self
    show List.lookup f ((k, w) :: ks.zip vs) = _
    simp only [List.lookup, ne]
    exact zip_none fun m => h (List.mem_cons_of_mem _ m)
theorem putF_zip {f : Str} {y : V} : ∀ {ks : List Str} {vs : List V} {i : Nat}, ks.Nodup → ks[i]? = some f → i ≤ vs.length → putF f y (ks.zip vs) = ks.zip (setV vs i y)
  | [], _, _, _, h, _ => by simp at h
  | k :: ks, [], i, nd, h1, h2 => by
    have e : i = 0 := by simpa using h2
    subst e
    simp at h1
    subst h1
    simp [putF, setV]
  | k :: ks, w :: vs, 0, nd, h1, h2 => by
    simp at h1
    subst h1
    show (if k = k then (k, y) :: ks.zip vs else _) = _
    rw [if_pos rfl]
    simp [setV]
  | k :: ks, w :: vs, i + 1, nd, h1, h2 => by
    have hk : ks[i]? = some f := by simpa using h1
    have ne : ¬ k = f := by
      have hm := List.mem_of_getElem? hk
      have := (List.nodup_cons.mp nd).1
      rintro rfl
      exact this hm
    show (if k = f then _ else (k, w) :: putF f y (ks.zip vs)) = _
    rw [if_neg ne, putF_zip (i := i) (List.nodup_cons.mp nd).2 hk (by simpa using h2)]
    unfold setV
    by_cases hl : i < vs.length
    · rw [if_pos hl, if_pos (by simpa using hl)]; rfl
    · rw [if_neg hl, if_neg (by simpa using hl)]; rfl
/-- the classes Cs have the attribute f as their i-th name of ks -/
structure Fld (K : PySem.W.Frag) (Cs : List Addr) (ks : List Str) (i : Nat) (f : Str) : Prop where
  nd : ks.Nodup
  at_ : ks[i]? = some f
  sz : ks.length ≤ 900
  cl : ∀ C ∈ Cs, Cls K C ∧ NoAttr K C f
def rFld (Cs : List Addr) (ks : List Str) (i : Nat) (x : V) (H : Hp) (Q : VK) : Prop := ∃ a C dx vs v, x = .ref a ∧ H a = some (.ins C dx (ks.zip vs)) ∧ C ∈ Cs ∧ vs[i]? = some v ∧ Q v H
/-- e.f -/
def qFld (Cs : List Addr) (ks : List Str) (i : Nat) (te : TE) : TE := fun σ H Q => te σ H fun x H1 => rFld Cs ks i x H1 Q
def rFldS (Cs : List Addr) (ks : List Str) (i : Nat) (x y : V) (H : Hp) (R : Hp → Prop) : Prop := ∃ a C dx vs, x = .ref a ∧ H a = some (.ins C dx (ks.zip vs)) ∧ C ∈ Cs ∧ i ≤ vs.length ∧ R (upd H a (.ins C dx (ks.zip (setV vs i y))))
/-- o.f = e -/
def qFldS (Cs : List Addr) (ks : List Str) (i : Nat) (to te : TE) : TS := fun D σ H => te σ H fun y H1 => to σ H1 fun x H2 => rFldS Cs ks i x y H2 fun H3 => D.nx σ H3
section
variable {X : Cx} {Cs : List Addr} {ks : List Str} {i : Nat} {f : Str} {e o : Expr} {pos pos' : Pos} {te to : TE}
theorem pe_f (F : Fld X.K Cs ks i f) (he : PE X e te) (hb : attributeBase e f X.env (eval e X.env) = eval e X.env := by rfl) : PE X (.Attribute e f pos) (qFld Cs ks i te) := by
  refine ⟨fun pins s σ H Q I h => attr_of hb (thn (he.run pins s σ H _ I h) ?_)⟩
  rintro u s1 ⟨x, H1, I1, rx, a, C, dx, vs, v, ex, ea, hC, hv, q⟩
  subst ex
  have eu : u = Value.ref a := rx
  subst eu
  exact getattr_ok I1 ea (F.cl C hC).1 (F.cl C hC).2 (zip_lookup F.nd F.at_ hv) fun u' s2 I2 ru => ⟨v, H1, I2, ru, q⟩
theorem ps_f (F : Fld X.K Cs ks i f) (ho : PE X o to) (he : PE X e te) (hs : swapsWith e (some (.Attribute o f pos')) pos.line X.env = pure false := by rfl) : PS X (.Assign [.Attribute o f pos'] e pos) (qFldS Cs ks i to te) := by
  refine ⟨fun pins s σ H D I h => plainObj_wpAny_Assign_Attribute (thn (he.run pins s σ H _ I h) ?_) hs⟩
  rintro u s1 ⟨y, H1, I1, ry, q⟩
  refine thn (ho.run pins s1 σ H1 _ I1 q) ?_
  rintro ov s2 ⟨x, H2, I2, rx, a, C, dx, vs, ex, ea, hC, hi, q2⟩
  subst ex
  have eu : ov = Value.ref a := rx
  subst eu
  have hz := F.sz
  refine setattr_ok I2 ea (F.cl C hC).1 (F.cl C hC).2 (by rw [List.length_zip]; omega) ry fun s3 I3 => ⟨σ, _, I3, ?_⟩
  rw [putF_zip F.nd F.at_ hi]
  exact q2
end

/-! ### methods, makers by promise -/
def Met (P : Program) (w : World) (K : PySem.W.Frag) (mg : Str → Option Value) (base : Heap) (C : Addr) (m : Str) (k : Nat) (sp : Sp) : Prop :=
  ∃ (f : Addr) (fd : FuncData) (ps : List Str), Cls K C ∧ Meth K C m f ∧ PySem.W.fnIn K f = true ∧ Binds K fd ps [] ∧ FnOk P w K mg base (L2N.CX P w) k f fd ps sp
def Mkr (P : Program) (w : World) (K : PySem.W.Frag) (mg : Str → Option Value) (base : Heap) (x : Str) (C : Addr) (k : Nat) (sp : Sp) : Prop :=
  ∃ (f : Addr) (fd : FuncData) (ps : List Str), mg x = some (.ref C) ∧ Mk K C f ∧ Binds K fd ps [] ∧ FnOk P w K mg base (L2N.CX P w) k f fd ps sp
def rMe (C : Addr) (ks : List Str) (x : V) (H : Hp) (R : Addr → Prop) : Prop := ∃ a dx vs, x = .ref a ∧ H a = some (.ins C dx (ks.zip vs)) ∧ R a
def tMe (C : Addr) (ks : List Str) (sp : Sp) (E : St → XK) (to : TE) (t : TA) : TE := fun σ H Q => to σ H fun x H1 => rMe C ks x H1 fun a => t σ H1 fun ws H2 => sp (.ref a :: ws) H2 Q (E σ)
def tMk (C : Addr) (sp : Sp) (E : St → XK) (t : TA) : TE := fun σ H Q => t σ H fun vs H1 => ∀ x dx, H1 x = none → H1 dx = none → dx ≠ x →
  sp (.ref x :: vs) (upd (upd H1 dx (.own x)) x (.ins C dx [])) (fun v H2 => v = .non ∧ Q (.ref x) H2) (E σ)
section
variable {X : Cx} {C : Addr} {ks : List Str} {k : Nat} {sp : Sp} {W : WX} {m x : Str} {o e : Expr} {es : List Expr} {p pos apos : Pos} {to : TE} {t : TA}
theorem pe_me {pl : Sem Bool} (F : Met X.prog X.w X.K X.mg X.base C m k sp) (hk : m ∉ ks) (hr : Room k X.A) (tk : L2N.Takes X W) (ho : PE X o to) (ha : PA X (e :: es) t)
    (hst : starEach (e :: es) X.env = (false, eval e X.env) :: starEach es X.env := by rfl) (hpl : (backTo pos (starEach es X.env)).any (·.1) = false := by rfl)
    (ht : eval (.Call (.Attribute o m apos) (e :: es) [] pos) X.env = (do
      let ov ← eval o X.env
      standAt apos.atName
      let (f, first) ← holding [ov] (getMethod ov m pl)
      callWith pos f first (backTo pos (starEach (e :: es) X.env)) (backToKw pos (keywordEach [] X.env))) := by rfl) :
    PE X (.Call (.Attribute o m apos) (e :: es) [] pos) (tMe C ks sp (WE W) to t) := by
  obtain ⟨f, fd, ps, c, hm, _, hb, F⟩ := F
  refine ⟨fun pins s σ H Q I h => PySem.W.methodCall_KW (pl := pl) (thn (ho.run pins s σ H _ I h) ?_) ht⟩
  rintro u s1 ⟨x, H1, I1, rx, a, dx, vs, ex, ea, q⟩
  subst ex
  have eu : u = Value.ref a := rx
  subst eu
  refine getmeth_ok I1 ea c hm (zip_none hk) (PySem.W.callWith_K (first := [.ref a]) (h₀ := X.base) I.ok.mod.kin hm.kp (thn (ha.run pos pins s1 σ H1 _ I1 q) ?_) hst hpl)
  rintro us s2 ⟨ws, H2, I2, r, q2⟩
  exact ⟨I2.kIn, run_fnS (us := .ref a :: us) (vs := .ref a :: ws) F hr hb (L2N.passAt tk σ) I2 (.cons rfl r) q2⟩
theorem pe_me0 {pl : Sem Bool} (F : Met X.prog X.w X.K X.mg X.base C m k sp) (hk : m ∉ ks) (hr : Room k X.A) (tk : L2N.Takes X W) (ho : PE X o to)
    (ht : eval (.Call (.Attribute o m apos) [] [] pos) X.env = (do
      let ov ← eval o X.env
      standAt apos.atName
      let (f, first) ← holding [ov] (getMethod ov m pl)
      callWith pos f first (backTo pos (starEach [] X.env)) (backToKw pos (keywordEach [] X.env))) := by rfl) :
    PE X (.Call (.Attribute o m apos) [] [] pos) (tMe C ks sp (WE W) to tNil) := by
  obtain ⟨f, fd, ps, c, hm, _, hb, F⟩ := F
  refine ⟨fun pins s σ H Q I h => PySem.W.methodCall_KW (pl := pl) (thn (ho.run pins s σ H _ I h) ?_) ht⟩
  rintro u s1 ⟨x, H1, I1, rx, a, dx, vs, ex, ea, q⟩
  subst ex
  have eu : u = Value.ref a := rx
  subst eu
  exact getmeth_ok I1 ea c hm (zip_none hk) (PySem.W.callWith_K0 (first := [.ref a]) I1.kIn hm.kp (run_fnS (us := [.ref a]) (vs := [.ref a]) F hr hb (L2N.passAt tk σ) I1 (.cons rfl .nil) q))
/-- the maker runs -/
theorem run_mk {pins : List (Addr × Obj)} {σ : St} {H : Hp} {s : Shared} {Q : VK} {us : List Value} {vs : List V} {f : Addr} {fd : FuncData} {ps : List Str} (M : Mk X.K C f) (hb : Binds X.K fd ps []) (F : FnOk X.prog X.w X.K X.mg X.base (L2N.CX X.prog X.w) k f fd ps sp)
    (hr : Room (k + 1) X.A) (tk : L2N.Takes X W) (I : Inv X pins σ H s) (r : Vals vs us)
    (h : ∀ x dx, H x = none → H dx = none → dx ≠ x → sp (.ref x :: vs) (upd (upd H dx (.own x)) x (.ins C dx [])) (fun v H2 => v = .non ∧ Q (.ref x) H2) (WE W σ)) :
    wpAny (model X.prog X.w) X.A (call (.ref C) us) (EP X pins σ Q) X.xe s := by
  have fr0 : H s.heap.objs.size = none := I.hok.fresh (Nat.le_refl _)
  have fr1 : H (s.heap.objs.size + 1) = none := I.hok.fresh (Nat.le_succ _)
  have hq := h _ _ fr1 fr0 (Nat.ne_of_lt (Nat.lt_succ_self _))
  have I2 := Inv.made (C := C) I
  have r2 : Vals (V.ref (s.heap.objs.size + 1) :: vs) (Value.ref (s.heap.objs.size + 1) :: us) := .cons rfl r
  have hl : ((Value.ref (s.heap.objs.size + 1) :: us) ++ []).length = ps.length := by
    rw [List.append_nil, ← r2.length]
    exact F.len _ _ _ _ hq
  have hbn := hb _ _ I2.kIn hl
  rw [List.append_nil] at hbn
  have run := F.run _ X.stack _ _ _ _ _ _ _ (hr.make C us []) (I2.env0.make C us []) hbn r2 hq
  refine wpAny_call (make_map (f := f) I.kIn M.makes M.init (beq_iff_eq.mp M.fn) (codeAny_mono run ?_))
  rintro (er | fl) s' hq'
  · exact L2N.passAt tk σ pins _ _ er s' I2 hq'
  · cases fl with
    | ret u =>
      obtain ⟨v, H', I3, rv, ev, q3⟩ := I2.after hq'
      subst ev
      exact ⟨rv, ⟨V.ref (s.heap.objs.size + 1), H', I3, rfl, q3⟩⟩
    | next => exact False.elim hq'
    | brk => exact False.elim hq'
    | cont => exact False.elim hq'
theorem pe_mk (F : Mkr X.prog X.w X.K X.mg X.base x C k sp) (hr : Room (k + 1) X.A) (tk : L2N.Takes X W) (ha : PA X (e :: es) t) (hg : Gl X x := by rfl) (hdb : (x == ("__debug__" : Str)) = false := by decide)
    (he : starEach (e :: es) X.env = (false, eval e X.env) :: starEach es X.env := by rfl) (hpl : (backTo pos (starEach es X.env)).any (·.1) = false := by rfl) :
    PE X (.Call (.Name x p) (e :: es) [] pos) (tMk C sp (WE W) t) := by
  obtain ⟨f, fd, ps, hm, M, hb, F⟩ := F
  refine ⟨fun pins s σ H Q I h => wpAny_Call_Name_kw (ld_glob I hg hm (PySem.W.callWith_K (h₀ := X.base) I.ok.mod.kin M.kp (thn (ha.run pos pins s σ H _ I h) ?_) he hpl) hdb)⟩
  rintro us s1 ⟨vs, H1, I1, r, q⟩
  exact ⟨I1.kIn, run_mk M hb F hr tk I1 r q⟩
theorem pe_mk0 (F : Mkr X.prog X.w X.K X.mg X.base x C k sp) (hr : Room (k + 1) X.A) (tk : L2N.Takes X W) (hg : Gl X x := by rfl) (hdb : (x == ("__debug__" : Str)) = false := by decide) :
    PE X (.Call (.Name x p) [] [] pos) (tMk C sp (WE W) tNil) := by
  obtain ⟨f, fd, ps, hm, M, hb, F⟩ := F
  exact ⟨fun pins s σ H Q I h => wpAny_Call_Name_kw (ld_glob I hg hm (PySem.W.callWith_K0 I.kIn M.kp (run_mk (us := []) M hb F hr tk I .nil h)) hdb)⟩
end

/-! ### operators of own classes -/
section
variable {X : Cx} {C : Addr} {ks : List Str} {k : Nat} {sp : Sp} {W : WX} {pos : Pos}
/-- the instance, for the library's rules -/
theorem Inv.inst {pins : List (Addr × Obj)} {σ : St} {H : Hp} {s : Shared} {a dx : Addr} {fs : List (Str × V)} (I : Inv X pins σ H s) (e : H a = some (.ins C dx fs)) : ∃ od, PySem.W.InstAt s.heap a (PySem.W.instObj C dx) C (some od) := by
  obtain ⟨mA, O, _⟩ := ins_get I.hok e
  obtain ⟨od, J, _⟩ := O.look
  exact ⟨od, J⟩
theorem takesF {X : Cx} : L2N.Takes X fun _ _ _ _ => False := fun _ _ ⟨_, _, _, _, _, _, _, _, _, _, _, _, _, _, _, _, w⟩ => w.elim
/-- o[i] = v, o an instance: __setitem__ (that raises nothing) -/
def rSetOwn (C : Addr) (sp : Sp) : TSet := fun o i v H Q => ∃ a dx fs, o = .ref a ∧ H a = some (.ins C dx fs) ∧ sp [.ref a, i, v] H (fun _ H' => Q H') E0
theorem set_own (F : Met X.prog X.w X.K X.mg X.base C "__setitem__" k sp) (nq : PySem.W.noSeq X.K C = true) (hr : Room k X.A) : PSet X (rSetOwn C sp) := by
  obtain ⟨f, fd, ps, c, hm, _, hb, F⟩ := F
  rintro pins s σ H o i v ov iv u Q I ro ri rv ⟨a, dx, fs, rfl, ha, q⟩
  have eo : ov = Value.ref a := ro
  subst eo
  obtain ⟨od, J⟩ := Inv.inst I ha
  obtain ⟨m, fr⟩ := I.fr
  have r3 : Vals [V.ref a, i, v] [Value.ref a, iv, u] := .cons rfl (.cons ri (.cons rv .nil))
  refine PySem.W.ksp_setItem fr I.mod.kin J nq hm.at_ hm.fn (thn (run_fnS F hr hb (L2N.passAt takesF σ) I r3 q) ?_)
  rintro u' s' ⟨v', H', I', _, q'⟩
  exact ⟨H', I', q'⟩
/-- o[i], o an instance: __getitem__ -/
def rGetOwn (C : Addr) (x : V) (H : Hp) (R : Addr → Prop) : Prop := ∃ a dx fs, x = .ref a ∧ H a = some (.ins C dx fs) ∧ R a
def tGetOwn (C : Addr) (sp : Sp) (E : St → XK) (to ti : TE) : TE := fun σ H Q => to σ H fun x H1 => ti σ H1 fun y H2 => rGetOwn C x H2 fun a => sp [.ref a, y] H2 Q (E σ)
theorem pe_getOwn {o i : Expr} {to ti : TE} (F : Met X.prog X.w X.K X.mg X.base C "__getitem__" k sp) (hr : Room (k + 1) X.A) (tk : L2N.Takes X W) (ho : PE X o to) (hi : PE X i ti)
    (hsl : ∀ a b, subscripted i true a b = runValue (.builtin "lifetime.subscript" ⟨[a, b], []⟩) := by intro _ _; with_unfolding_all rfl) : PE X (.Subscript o i pos) (tGetOwn C sp (WE W) to ti) := by
  obtain ⟨f, fd, ps, c, hm, hfn, hb, F⟩ := F
  refine ⟨fun pins s σ H Q I h => Subscript_ (binT ho hi I h ?_)⟩
  rintro v u s2 x y H2 I2 rx ry ⟨a, dx, fs, rfl, ha, q⟩
  have eo : v = Value.ref a := rx
  subst eo
  obtain ⟨od, J⟩ := Inv.inst I2 ha
  obtain ⟨m, fr⟩ := I2.fr
  have r3 : Vals [V.ref a, y] [Value.ref a, u] := .cons rfl (.cons ry .nil)
  have hl : ([Value.ref a, u] ++ []).length = ps.length := by
    rw [← F.len _ _ _ _ q] <;> rfl
  have hbn := hb _ _ I2.kIn hl
  have run := F.run X.A.in1 X.stack _ _ _ _ _ _ _ hr.in1 I2.env0.in1 hbn r3 q
  refine PySem.W.sub_K fr I2.mod.kin J hm.at_ hfn hm.fn (wpAny_call (codeAny_mono run ?_)) (hsl _ _)
  rintro (er | fl) s' hq'
  · exact L2N.passAt tk σ pins _ _ er s' I2 hq'
  · cases fl with
    | ret w' => exact I2.after hq'
    | next => exact False.elim hq'
    | brk => exact False.elim hq'
    | cont => exact False.elim hq'
/-- x in o, o an instance: __contains__ that hands back a bool and raises nothing -/
def rInOwn (C : Addr) (neg : Bool) (sp : Sp) : R2 := fun x y H Q => ∃ a dx fs, y = .ref a ∧ H a = some (.ins C dx fs) ∧ sp [.ref a, x] H (fun v H' => ∃ b, v = .bl b ∧ Q (.bl (if neg then !b else b)) H') E0
theorem op_inOwn (F : Met X.prog X.w X.K X.mg X.base C "__contains__" k sp) (hr : Room k X.A) : OpR X (compareOp .In) (rInOwn C false sp) := by
  obtain ⟨f, fd, ps, c, hm, _, hb, F⟩ := F
  rintro pins s σ H x y v u Q I rx ry ⟨a, dx, fs, rfl, ha, q⟩
  have eo : u = Value.ref a := ry
  subst eo
  obtain ⟨od, J⟩ := Inv.inst I ha
  obtain ⟨m, fr⟩ := I.fr
  have r3 : Vals [V.ref a, x] [Value.ref a, v] := .cons rfl (.cons rx .nil)
  refine PySem.W.in_K fr I.mod.kin J hm.at_ hm.fn (thn (run_fnS F hr hb (L2N.passAt takesF σ) I r3 q) ?_)
  rintro u' s' ⟨v', H', I', r', b, rfl, q'⟩
  cases r'
  exact wpAny_truthy_bool ⟨.bl b, H', I', rfl, q'⟩
theorem op_notInOwn (F : Met X.prog X.w X.K X.mg X.base C "__contains__" k sp) (hr : Room k X.A) : OpR X (compareOp .NotIn) (rInOwn C true sp) := by
  obtain ⟨f, fd, ps, c, hm, _, hb, F⟩ := F
  rintro pins s σ H x y v u Q I rx ry ⟨a, dx, fs, rfl, ha, q⟩
  have eo : u = Value.ref a := ry
  subst eo
  obtain ⟨od, J⟩ := Inv.inst I ha
  obtain ⟨m, fr⟩ := I.fr
  have r3 : Vals [V.ref a, x] [Value.ref a, v] := .cons rfl (.cons rx .nil)
  refine PySem.W.notIn_K fr I.mod.kin J hm.at_ hm.fn (thn (run_fnS F hr hb (L2N.passAt takesF σ) I r3 q) ?_)
  rintro u' s' ⟨v', H', I', r', b, rfl, q'⟩
  cases r'
  exact wpAny_truthy_bool ⟨.bl (!b), H', I', rfl, q'⟩
end
/-! ### isinstance against a built-in type -/
def tyR : Option HO → Option String
  | some (.lst _) => some "list"
  | some (.tup _) => some "tuple"
  | some (.dK _) => some "dict"
  | some (.frz _ (.lst _)) => some "list"
  | some (.frz _ (.tup _)) => some "tuple"
  | some (.frz _ (.dK _)) => some "dict"
  | _ => none
def tyB (H : Hp) : V → Option String
  | .non => some "NoneType"
  | .bl _ => some "bool"
  | .int _ => some "int"
  | .str _ => some "str"
  | .ref p => tyR (H p)
  | _ => none
def isTb (t T : String) : Bool := t == T || (t == "bool" && T == "int")
/-- isinstance(x, T) -/
def rIsT (T : String) : List V → Hp → VK → Prop := fun xs H Q => ∃ x t, xs = [x, .ty T] ∧ tyB H x = some t ∧ Q (.bl (isTb t T)) H
section
variable {X : Cx}
theorem tyB_ok {K : PySem.W.Frag} {H : Hp} {x : V} {t : String} (h : tyB H x = some t) : TyX K H x (.type t) := by
  cases x with
  | non => cases h; exact .base .non
  | bl b => cases h; exact .base (.bl b)
  | int b => cases h; exact .base (.int b)
  | str b => cases h; exact .base (.str b)
  | ref p =>
    have h' : tyR (H p) = some t := h
    unfold tyR at h'
    split at h'
    · rename_i e; cases h'; exact .base (.lst e)
    · rename_i e; cases h'; exact .base (.tup e)
    · rename_i e; cases h'; exact .base (.dK e)
    · rename_i e; cases h'; exact .base (.frz e)
    · rename_i e; cases h'; exact .fTuple e
    · rename_i e; cases h'; exact .fDict e
    · cases h'
  | _ => cases h
theorem tyB_in {H : Hp} {x : V} {t : String} (h : tyB H x = some t) : t ∈ ["NoneType", "bool", "int", "str", "list", "tuple", "dict"] := by
  cases x with
  | non => cases h; decide
  | bl b => cases h; decide
  | int b => cases h; decide
  | str b => cases h; decide
  | ref p =>
    have h' : tyR (H p) = some t := h
    unfold tyR at h'
    split at h' <;> first | (cases h'; decide) | cases h'
  | _ => cases h
theorem call_isT {T : String} (hT : ∀ t ∈ ["NoneType", "bool", "int", "str", "list", "tuple", "dict"], kitB t T = some (isTb t T)) : CallR X (.builtin "isinstance") (rIsT T) := by
  rintro pins s σ H xs us Q I r ⟨x, t, rfl, ht, q⟩
  exact call_isi pins s σ H _ us Q I r ⟨x, .ty T, .type t, .type T, isTb t T, rfl, by
    first
      | exact ClsV.ty _
      | constructor, tyB_ok ht, kit_ty (hT t (tyB_in ht)), q⟩
end
end U


set_option maxHeartbeats 4000000
namespace U
open PySem PySem.Spec PyProof.Rows L2
/-- at v the items view of the dict at d -/
def VwO (d v : Addr) : HO := .ext fun h => h.IsItemsView v d
/-- at it an iterator over the items of d, at its start; od: the object at d -/
def IiO (od : Obj) (d it : Addr) : HO := .ext fun h => ∃ es ep, od.data = .dict es ep ∧ IsItemIter h it d 0 es.size ep .none .none
theorem cx_none {P : Program} {w : World} {st : List Env} {H : Hp} {s s' : Shared} {e : Value} (c : L2N.CX P w st H s (fun _ _ _ => False) e s') : False := by
  obtain ⟨_, _, _, _, _, _, _, _, _, _, _, _, _, h⟩ := c
section
variable {X : Cx}
/-- e.items(), the dict locked -/
def tItemsV (te : TE) : TE := fun σ H Q => te σ H fun x H1 => ∃ d od kvs, x = .ref d ∧ H1 d = some (.frz od (.dK kvs)) ∧ ∀ v, H1 v = none → Q (.ref v) (upd H1 v (VwO d v))
theorem pe_itemsV {e : Expr} {te : TE} {apos cpos : Pos} (he : PE X e te) (hbase : attributeBase e "items" X.env (eval e X.env) = eval e X.env := by rfl) (hline : (apos.endLine == cpos.line) = true := by rfl) : PE X (.Call (.Attribute e "items" apos) [] [] cpos) (tItemsV te) := by
  refine ⟨fun pins s σ H Q I h => wpAny_Call_method0_late hbase hline (thn (he.run pins s σ H _ I h) ?_)⟩
  rintro u s1 ⟨x, H1, I1, rx, d, od, kvs, ex, hd, q⟩
  subst ex
  have eu : u = Value.ref d := rx
  subst eu
  obtain ⟨ho, hz, hs0, vs, kv, hdo⟩ := I1.hok d _ hd
  have new : ObjOk X.prog X.w (upd H1 s1.heap.objs.size (VwO d s1.heap.objs.size)) (s1.heap.push { cls := .type "dict_items", data := .fields #[.ref d] }) s1.heap.objs.size (VwO d s1.heap.objs.size) :=
    ⟨⟨_, Heap.get?_push_size _ rfl, rfl, rfl⟩, ⟨_, Heap.get?_push_size _ rfl⟩, fun h1 h2 ⟨o, z, r⟩ k => ⟨o, k _ z, r⟩⟩
  exact ⟨"dict", "dict.items", F.plainAttrs_dict, F.slot_dict_items, F.type_dict_items, hdo.typeIs, hdo.mapOf.noDict, Calls.callWith_builtin rfl (PySem.evalArgs_none (call_meetsIn F.slot_dict_items hdo.typeIs F.entry_dict_items (F.args_dict_items_1 _) (meets_dict_items (mixKind X.prog X.w) d hs0)
    ⟨⟨vs, hdo⟩, .ref _, _, I1.laid (t' := s1.toks) (fun b v z => Heap.get?_push_of_some _ z) (Nat.le_refl _) new, rfl, q _ I1.fresh⟩))⟩
/-- iter(v), v an items view -/
def rIterV : List V → Hp → VK → Prop := fun xs H Q => ∃ v d od kvs, xs = [.ref v] ∧ H v = some (VwO d v) ∧ H d = some (.frz od (.dK kvs)) ∧ ∀ it, H it = none → (∀ b o, H b = some o → b < it) → Q (.ref it) (upd H it (IiO od d it))
theorem call_iterV : CallR X (.builtin "iter") rIterV := by
  rintro pins s σ H xs us Q I r ⟨v, d, od, kvs, rfl, hv, hd, q⟩
  obtain rfl := Vals.ref1 r
  obtain ⟨ho, hz, hs0, vs, kv, hdo⟩ := I.hok d _ hd
  obtain ⟨ep, hat⟩ := hdo.dictAt
  have hV : s.heap.IsItemsView v d := (I.hok v _ hv).1
  refine Calls.call_function_entry (by decide +kernel) (by decide +kernel) PySem.W.kdk_entry_iter (PySem.W.kdk_args_iter _) ?_
  unfold Builtin.«iter»
  refine wpAny_bind (m := someArgs "iter" 1 2 _) (wpAny_of_eq (a := [Value.ref v]) (by kernel_rfl) (wpAny_bind (wpAny_pyIter_items hV hat (wpAny_pure ⟨_, rfl, ?_⟩))))
  obtain ⟨o, es, z1, z2, z3, z4, z5, z6⟩ := id hat
  have eo : o = od := Option.some.inj (z1.symm.trans ho)
  subst eo
  have hsz : es.size = vs.length := by rw [← z5.length]; simp
  have new : ∀ h' : Heap, IsItemIter h' s.heap.objs.size d 0 vs.length ep .none .none → ObjOk X.prog X.w (upd H s.heap.objs.size (IiO o d s.heap.objs.size)) h' s.heap.objs.size (IiO o d s.heap.objs.size) := fun h' z =>
    ⟨⟨es, ep, z3, by rw [hsz]; exact z⟩, ⟨_, z⟩, fun h1 h2 ⟨es', ep', w1, w2⟩ k => ⟨es', ep', w1, k _ w2⟩⟩
  exact ⟨.ref s.heap.objs.size, _, I.laid (t' := s.toks) (fun b v z => Heap.get?_push_of_some _ z) (Nat.le_refl _) (new _ (Heap.get?_push_size _ rfl)), rfl, q _ I.fresh fun b u z => I.hok.lt z⟩
/-- len(o), o an instance: __len__ -/
def rLenOwn (C : Addr) (sp : Sp) : List V → Hp → VK → Prop := fun xs H Q => ∃ a dx fs, xs = [.ref a] ∧ H a = some (.ins C dx fs) ∧ sp [.ref a] H (fun v H' => ∃ n : Nat, v = .int n ∧ n < 2 ^ 62 ∧ Q (.int n) H') E0
theorem lenOwn_run {C : Addr} {k : Nat} {sp : Sp} {A : Around} {pins : List (Addr × Obj)} {σ : St} {H : Hp} {s : Shared} {Q : VK} (F : Met X.prog X.w X.K X.mg X.base C "__len__" k sp) (sb : Sub X k A.in1) (I : Inv X pins σ H s) {a dx : Addr} {fs : List (Str × V)} (ha : H a = some (.ins C dx fs))
    (q : sp [.ref a] H (fun v H' => ∃ n : Nat, v = .int n ∧ n < 2 ^ 62 ∧ Q (.int n) H') E0) {E : Value → Shared → Prop} : wpAny (model X.prog X.w) A (call (.builtin "len") [.ref a]) (EP X pins σ Q) E s := by
  obtain ⟨f, fd, ps, c, hm, hfn, hb, F⟩ := F
  obtain ⟨od, J⟩ := Inv.inst I ha
  obtain ⟨m, fr⟩ := I.fr
  have r3 : Vals [V.ref a] [Value.ref a] := .cons rfl .nil
  have hl : ([Value.ref a] ++ []).length = ps.length := by
    rw [← F.len _ _ _ _ q] <;> rfl
  have e0 : Env0 X.prog X.w X.K X.mg X.base A.in1 X.stack s H := by
    have e := I.env0
    exact ⟨by rw [sb.fr]; exact e.frames, e.mod, e.bs, e.bsz, e.funs, e.frf, e.hok, e.bare⟩
  refine PySem.W.len_K fr I.mod.kin J hm.at_ hm.fn (wpAny_call (codeAny_mono (F.run A.in1 X.stack _ _ _ _ _ _ _ sb.room e0 (hb _ _ I.kIn hl) r3 q) ?_))
  rintro (er | fl) s' hq'
  · exact (cx_none hq').elim
  · cases fl with
    | ret u =>
      obtain ⟨v, H', I', r', n, rfl, hn, q'⟩ := I.after hq'
      obtain ⟨t, rfl⟩ := r'
      exact ⟨⟨by omega, by omega⟩, .int n, H', I'.tok _, ⟨_, rfl⟩, q'⟩
    | next => exact False.elim hq'
    | brk => exact False.elim hq'
    | cont => exact False.elim hq'
theorem call_lenOwn {C : Addr} {k : Nat} {sp : Sp} (F : Met X.prog X.w X.K X.mg X.base C "__len__" k sp) (hr : Room (k + 1) X.A) : CallR X (.builtin "len") (rLenOwn C sp) := by
  rintro pins s σ H xs us Q I r ⟨a, dx, fs, rfl, ha, q⟩
  obtain rfl := Vals.ref1 r
  exact lenOwn_run F ⟨hr.in1, rfl⟩ I ha q

/-- list(o), o an instance of C with __iter__ that gives the items of a dict, and __len__ -/
def rListD (C : Addr) (spI spL : Sp) : List V → Hp → VK → Prop := fun xs H Q => ∃ a dx fs d kvs, xs = [.ref a] ∧ H a = some (.ins C dx fs) ∧ H d = some (.dK kvs) ∧
  (∀ od S, H S = none → spI [.ref a] (upd (upd H d (.frz od (.dK kvs))) S (.lst [])) (fun v H2 => ∃ it, v = .ref it ∧ upd (upd H d (.frz od (.dK kvs))) S (.lst []) it = none ∧ Same (upd (upd H d (.frz od (.dK kvs))) S (.lst [])) H2 ∧
    H2 it = some (IiO od d it) ∧ (∀ b o, H2 b = some o → b ≤ it) ∧ spL [.ref a] H2 (fun v H3 => ∃ n : Nat, v = .int n ∧ n < 2 ^ 62 ∧ n ≤ sizeLine ∧ H3 = H2) E0) E0) ∧
  ∀ (H' : Hp) (p : Addr) (ts : List Addr), Same H H' → H p = none → (∀ t ∈ ts, H t = none) → p ∉ ts → H' p = some (.lst (ts.map V.ref)) → Paired (fun (t : Addr) (q : Key × V) => H' t = some (.tup [kV q.1, q.2])) ts kvs → Q (.ref p) H'
theorem listD_hint {C : Addr} {k : Nat} {sp : Sp} {A : Around} {pins : List (Addr × Obj)} {σ : St} {H : Hp} {s : Shared} {Q : Bool → Shared → Prop} (F : Met X.prog X.w X.K X.mg X.base C "__len__" k sp) (sb : Sub X k A.in1) (I : Inv X pins σ H s) {a dx : Addr} {fs : List (Str × V)} (ha : H a = some (.ins C dx fs))
    (q : sp [.ref a] H (fun v H3 => ∃ n : Nat, v = .int n ∧ n < 2 ^ 62 ∧ n ≤ sizeLine ∧ H3 = H) E0) {E : Value → Shared → Prop} (h : ∀ b s', Inv X pins σ H s' → Q b s') : wpAny (model X.prog X.w) A (Builtin.List.listLengthHint (.ref a)) Q E s := by
  obtain ⟨f, fd, ps, c, hm, hfn, hb, F'⟩ := id F
  obtain ⟨od, J⟩ := Inv.inst I ha
  unfold Builtin.List.listLengthHint
  refine wpAny_bind (wpAny_bind (J.type.here ((PySem.W.looks_findIn I.kIn hm.at_).here ?_)))
  refine PySem.W.KFB.if_not rfl (PySem.W.KFB.if_so rfl (wpAny_bind (wpAny_rule (wpAny_bind (wpAny_attempt (wpAny_mono (lenOwn_run (Q := fun v H3 => ∃ n : Nat, v = .int n ∧ n ≤ sizeLine ∧ H3 = H) (E := fun _ _ => False) F sb I ha ?_) (fun u s' hu => ?_) fun _ _ z => z.elim))))))
  · have e : (fun v H' => ∃ n : Nat, v = V.int n ∧ n < 2 ^ 62 ∧ (∃ n' : Nat, V.int n = V.int n' ∧ n' ≤ sizeLine ∧ H' = H)) = (fun v H3 => ∃ n : Nat, v = V.int n ∧ n < 2 ^ 62 ∧ n ≤ sizeLine ∧ H3 = H) := by
      funext v H3
      apply propext
      constructor
      · rintro ⟨n, rfl, h1, n', e, h2, h3⟩
        have : n = n' := by cases e; rfl
        exact ⟨n, rfl, h1, by omega, h3⟩
      · rintro ⟨n, rfl, h1, h2, h3⟩
        exact ⟨n, rfl, h1, n, rfl, h2, h3⟩
    rw [e]
    exact q
  · obtain ⟨v, H', I', r', n, rfl, hn, rfl⟩ := hu
    obtain ⟨t, rfl⟩ := r'
    have nl := notLongL hn
    show wpAny _ _ (if Builtin.List.listTooLong (n : Int).toNat = true then _ else _) _ _ _
    rw [Int.toNat_natCast, nl]
    exact wpAny_pure (h _ _ I')

/-- the list S is empty, its room is asked for -/
theorem touch_ok {pins : List (Addr × Obj)} {σ : St} {H : Hp} {s : Shared} {A : Around} {E : Value → Shared → Prop} {S : Addr} {Q : Unit → Shared → Prop} (I : Inv X pins σ H s) (hS : H S = some (.lst [])) (h : ∀ s', Inv X pins σ H s' → Q () s') : wpAny (model X.prog X.w) A (Builtin.List.listTouch (.ref S)) Q E s := by
  obtain ⟨z, its, k, r, hl, e⟩ := I.lstM hS
  cases r
  show wpAny _ _ (updateSeq S (·.push .none) >>= fun _ => updateSeq S (·.pop)) Q E s
  have I2 := I.lset (f := (·.push Value.none)) (its' := [Value.none]) (ys := [.non]) (t' := s.toks) hS e (by simp) (.cons rfl .nil) (by rw [sizeLine_eq]; decide)
  refine wpAny_bind (wpAny_updateSeq e rfl ?_ (by rw [sizeLine_eq]; decide))
  obtain ⟨z4, its4, k4, r4, hl4, e4⟩ := I2.lstM upd_same
  obtain ⟨u4, rfl, ru4⟩ := r4.one
  have I3 := I2.lset (f := (·.pop)) (its := [u4]) (its' := []) (ys := []) (t' := s.toks) upd_same e4 (by rfl) .nil (Nat.zero_le _)
  have hH : upd (upd H S (.lst [.non])) S (.lst []) = H := by
    rw [upd_upd]
    funext b
    unfold upd
    split
    · rename_i hb; rw [hb, hS]
    · rfl
  rw [hH] at I3
  exact wpAny_updateSeq e4 rfl (h _ I3) (by rw [sizeLine_eq]; show 1 ≤ 16777216; decide) (by simp)
theorem paired_snoc {α β : Type} {F : α → β → Prop} : ∀ {xs : List α} {ys : List β} {x : α} {y : β}, Paired F xs ys → F x y → Paired F (xs ++ [x]) (ys ++ [y])
  | _, _, _, _, .nil, h => .cons h .nil
  | _, _, _, _, .cons r t, h => .cons r (paired_snoc t h)
/-- an iterator of ours is no longer told of -/
theorem drop_ext {pins : List (Addr × Obj)} {σ : St} {H : Hp} {s : Shared} {it : Addr} {φ : Heap → Prop} (I : Inv X pins σ H s) (h : H it = some (.ext φ)) (f : FpOk X pins (fun _ => none) it) : Inv X pins σ (fun b => if b = it then none else H b) s := by
  have ne : ∀ b o, H b = some o → (∀ φ, o ≠ .ext φ) → b ≠ it := fun b o e n z => by rw [z, h] at e; cases e; exact n _ rfl
  have at_ : ∀ b o, H b = some o → (∀ φ, o ≠ .ext φ) → (if b = it then none else H b) = some o := fun b o e n => by rw [if_neg (ne b o e n)]; exact e
  refine I.call' (s' := s) (ch := [it]) rfl ⟨fun b o e _ _ _ => e, fun b o e _ _ _ => ⟨o.slots, e⟩, fun b o e n _ => ?_, fun b o e _ => ⟨o, e⟩, fun b xs e => at_ b _ e (fun _ z => nomatch z), fun b o u e => at_ b _ e (fun _ z => nomatch z), fun b ps e => ⟨#[], ?_⟩⟩ (fun b u e => ?_) I.bare fun b z => ?_
  · show (if b = it then none else H b) = none
    rw [n]; split <;> rfl
  · rw [at_ b _ e (fun _ z => nomatch z)]; simp
  · by_cases hb : b = it
    · have e' : (if b = it then none else H b) = some u := e
      rw [if_pos hb] at e'; cases e'
    · have e' : (if b = it then none else H b) = some u := e
      rw [if_neg hb] at e'
      exact (I.hok b u e').stay (fun c v _ z => z) (fun c z => at_ c _ z (fun _ y => nomatch y)) (fun c xs z => at_ c _ z (fun _ y => nomatch y))
  · have eb : b = it := by simpa using z
    subst eb
    exact ⟨f.2.2.2.1, f.2.1, f.2.2.2.2.1, f.2.2.2.2.2⟩
/-- the items of the dict at d go into the list at S, as new pairs -/
theorem items_loop {pins : List (Addr × Obj)} {σ : St} {S it d : Addr} {od : Obj} {kvs : List (Key × V)} {vs : List (Key × Value)} {ep : Nat} {H0 : Hp} {R : Result → Shared → Prop} {A : Around} (hh : A.handled = none) (kv : KV kvs vs) (hz : kvs.length ≤ sizeLine) (hat : ∀ h : Heap, h.get? d = some od → h.DictAt (mixKind X.prog X.w) d vs ep) (f : FpOk X pins (fun _ => none) it) (neS : it ≠ S)
    (hd0 : H0 d = some (.frz od (.dK kvs))) (hS0 : H0 S = some (.lst [])) (hR : ∀ H' s' ts, Inv X pins σ H' s' → (∀ b o, b ≠ S → H0 b = some o → H' b = some o) → (∀ t ∈ ts, H0 t = none) → H' S = some (.lst (ts.map V.ref)) → Paired (fun (t : Addr) (q : Key × V) => H' t = some (.tup [kV q.1, q.2])) ts kvs → R (.ok (.ret .none)) s') :
    ∀ k i (H : Hp) (s : Shared) (ts : List Addr), vs.length - i = k → i ≤ vs.length → Inv X pins σ H s → H it = none → PySem.W.KdxSt s.heap it d S i vs.length ep → (∀ b o, b ≠ S → H0 b = some o → H b = some o) → (∀ t ∈ ts, H0 t = none) → H S = some (.lst (ts.map V.ref)) → Paired (fun (t : Addr) (q : Key × V) => H t = some (.tup [kV q.1, q.2])) ts (kvs.take i) →
      codeAny (model X.prog X.w) A (.builtin "list.extend.loop" ⟨[.ref S, .ref it, .none], []⟩) R s := by
  have lk : kvs.length = vs.length := Paired.length kv
  have neSd : d ≠ S := ne_of hd0 hS0 (fun z => nomatch z)
  intro k
  induction k with
  | zero =>
    intro i H s ts hk hi I hit st hsm hts hS hp
    have hd : H d = some (.frz od (.dK kvs)) := hsm _ _ neSd hd0
    refine codeAny_builtin PySem.F.entry_extend_loop ?_
    rw [Around.under_plainId PySem.F.plain_extend_loop _]
    show wpAny _ A.in1 (pyNext (.ref it) >>= _) _ _ _
    refine wpAny_bind (PySem.W.kdx_done hh st (hat _ (I.hok d _ hd).1) (List.getElem?_eq_none (by omega)) fun h' eb => wpAny_pure ?_)
    rw [List.take_of_length_le (by omega)] at hp
    exact hR H _ ts (I.turned (t' := s.toks) (fun b o hb e => eb b o hb e) hit f.2.1 f.2.2.2.1 f.2.2.2.2.1 f.2.2.2.2.2) hsm hts hS hp
  | succ k ih =>
    intro i H s ts hk hi I hit st hsm hts hS hp
    have hd : H d = some (.frz od (.dK kvs)) := hsm _ _ neSd hd0
    have hlt : i < vs.length := by omega
    obtain ⟨⟨kk, x⟩, hx⟩ : ∃ p, vs[i]? = some p := ⟨vs[i], List.getElem?_eq_getElem hlt⟩
    have hkl : i < kvs.length := by omega
    obtain ⟨qv, g1, g2, g3⟩ := LiI.paired_get kv (List.getElem?_eq_getElem hkl)
    rw [hx] at g1
    cases g1
    have hSl : S < s.heap.objs.size := I.hok.lt hS
    refine codeAny_builtin PySem.F.entry_extend_loop ?_
    rw [Around.under_plainId PySem.F.plain_extend_loop _]
    show wpAny _ A.in1 (pyNext (.ref it) >>= _) _ _ _
    refine wpAny_bind (PySem.W.kdx_item (S := S) st hSl (hat _ (I.hok d _ hd).1) hx fun key h' hkey st' ht hz' hkp => ?_)
    have rk : RelV (kV kvs[i].1) key := by
      rw [g2]
      exact relV_key (show keyIs kk key = true from hkey)
    have hT : H s.heap.objs.size = none := I.fresh
    have neT : ∀ b o, H b = some o → b ≠ s.heap.objs.size := fun b o e => ne_of_none e hT
    have I1 : Inv X pins σ (upd H s.heap.objs.size (.tup [kV kvs[i].1, kvs[i].2])) { s with heap := s.heap.push { cls := .type "tuple", data := .seq #[key, x] } } :=
      I.laid (t' := s.toks) (fun b o e => Heap.get?_push_of_some _ e) (Nat.le_refl _) ⟨by rw [sizeLine_eq]; show 2 ≤ 16777216; decide, [key, x], .cons rk (.cons g3 .nil), IsTup.new _ _⟩
    have neIt : it ≠ s.heap.objs.size := fun z => by
      rcases st with ⟨_, _, _, e⟩ | ⟨_, _, _, _, _, e, _⟩
      · exact absurd (Heap.lt_size e) (by rw [← z]; exact Nat.lt_irrefl _)
      · exact absurd (Heap.lt_size e) (by rw [← z]; exact Nat.lt_irrefl _)
    have mv : ∀ b o, b ≠ it → (s.heap.push { cls := .type "tuple", data := .seq #[key, x] }).get? b = some o → h'.get? b = some o := fun b o hb e => by
      rcases Heap.get?_push_cases e with ⟨rfl, rfl⟩ | e
      · exact ht
      · exact hkp b o hb e
    have I2 : Inv X pins σ (upd H s.heap.objs.size (.tup [kV kvs[i].1, kvs[i].2])) { s with heap := h' } :=
      Inv.turned (s := { s with heap := s.heap.push { cls := .type "tuple", data := .seq #[key, x] } }) (t' := s.toks) (h' := h') (it := it) I1 mv (by rw [upd_ne neIt]; exact hit) f.2.1 f.2.2.2.1 f.2.2.2.2.1 f.2.2.2.2.2
    have hS1 : upd H s.heap.objs.size (.tup [kV kvs[i].1, kvs[i].2]) S = some (.lst (ts.map V.ref)) := by rw [upd_ne (neT _ _ hS)]; exact hS
    obtain ⟨z, its, n, r2, hl2, e2⟩ := I2.lstM hS1
    show wpAny _ A.in1 (updateSeq S (·.push (Value.ref s.heap.objs.size)) >>= _) _ _ _
    have hti : ts.length = i := by
      have := Paired.length hp
      rw [this, List.length_take]; omega
    have hsl : its.length = i := by rw [← hl2, List.length_map]; exact hti
    have hz2 : i + 1 ≤ sizeLine := by omega
    have I3 := I2.lset (f := (·.push (Value.ref s.heap.objs.size))) (its' := its ++ [Value.ref s.heap.objs.size]) (ys := (ts ++ [s.heap.objs.size]).map V.ref) (t' := s.toks) hS1 e2 (by simp) (by rw [List.map_append]; exact r2.append (.cons rfl .nil)) (by rw [List.length_map, List.length_append, hti]; exact hz2)
    refine wpAny_bind (wpAny_updateSeq e2 rfl (wpAny_pure ⟨plainId_quiet PySem.F.plain_extend_loop _, ?_⟩) (by show its.toArray.size ≤ _; rw [List.size_toArray, hsl]; omega) (by show (its.toArray.push (Value.ref s.heap.objs.size)).size ≤ sizeLine + 1; rw [Array.size_push, List.size_toArray]; omega))
    refine ih (i + 1) _ _ (ts ++ [s.heap.objs.size]) (by omega) (by omega) I3 ?_ ?_ ?_ ?_ ?_ ?_
    · rw [upd_ne neS, upd_ne neIt]; exact hit
    · exact st'.keep (fun b o hb e => (Heap.get?_update_other _ _ (Ne.symm hb)).trans e) neS
    · intro b o hb e
      rw [upd_ne hb, upd_ne (neT _ _ (hsm b o hb e))]
      exact hsm b o hb e
    · intro t ht
      rcases List.mem_append.mp ht with ht | ht
      · exact hts t ht
      · rw [List.mem_singleton.mp ht]
        cases e : H0 s.heap.objs.size with
        | none => rfl
        | some o =>
          have nS : s.heap.objs.size ≠ S := Ne.symm (Nat.ne_of_lt hSl)
          have := hsm _ _ nS e
          rw [hT] at this; cases this
    · exact upd_same
    · have et : kvs.take (i + 1) = kvs.take i ++ [kvs[i]] := by rw [List.take_append_getElem hkl]
      rw [et]
      have neTS : s.heap.objs.size ≠ S := Ne.symm (Nat.ne_of_lt hSl)
      refine paired_snoc (L2.Paired.mapP hp fun t q e => ?_) (by rw [upd_ne neTS]; exact upd_same)
      rw [upd_ne (ne_of e hS (fun z => nomatch z)), upd_ne (neT _ _ e)]
      exact e
theorem call_listD {C : Addr} {k k' : Nat} {spI spL : Sp} (hc : X.calm = true) (FI : Met X.prog X.w X.K X.mg X.base C "__iter__" k spI) (FL : Met X.prog X.w X.K X.mg X.base C "__len__" k' spL) (hr : Room (k + k' + 4) X.A) : CallR X (.type "list") (rListD C spI spL) := by
  rintro pins s σ H xs us Q I rv ⟨a, dx, fs, d, kvs, rfl, ha, hd, hI, q⟩
  obtain rfl := Vals.ref1 rv
  obtain ⟨f, fd, ps, c, hm, hfn, hb, F⟩ := FI
  refine callType_codes (Q₁ := fun obj s₁ => obj = .ref s.heap.objs.size ∧ s₁ = { s with heap := s.heap.push { cls := .type "list", data := .seq #[] } }) PySem.F.called_list (PySem.F.typeCall_list_1 _) PySem.F.entry_list_init (code_list_new _ ⟨rfl, rfl⟩) fun obj s₁ h₁ => ?_
  obtain ⟨rfl, rfl⟩ := h₁
  generalize hSS : s.heap.objs.size = S
  have hS : (s.heap.push { cls := .type "list", data := .seq #[] }).get? S = some { cls := .type "list", data := .seq #[] } := by rw [← hSS]; exact Heap.get?_push_size _ rfl
  refine ⟨⟨_, hS, rfl⟩, PySem.F.args_list_init_2 _ _, ?_⟩
  have fr : H S = none := by rw [← hSS]; exact I.fresh
  obtain ⟨od, IL⟩ := I.lock hd trivial
  have neSd : S ≠ d := Ne.symm (ne_of_none hd fr)
  have neSa : S ≠ a := Ne.symm (ne_of_none ha fr)
  have nead : a ≠ d := ne_of ha hd (fun z => nomatch z)
  have hh : X.A.in1.in1.handled = none := I.ok.hd hc
  have I1 : Inv X pins σ (upd (upd H d (.frz od (.dK kvs))) S (.lst [])) { s with heap := s.heap.push { cls := .type "list", data := .seq #[] } } := by
    have z := IL.lnew (its := []) (ys := []) (t' := s.toks) .nil (Nat.zero_le _)
    rw [hSS] at z
    exact z
  specialize hI od S fr
  generalize hH1 : upd (upd H d (.frz od (.dK kvs))) S (.lst []) = H1 at I1 hI
  have hS1 : H1 S = some (.lst []) := by rw [← hH1]; exact upd_same
  have ha1 : H1 a = some (.ins C dx fs) := by rw [← hH1, upd_ne (Ne.symm neSa), upd_ne nead]; exact ha
  have hd1 : H1 d = some (.frz od (.dK kvs)) := by rw [← hH1, upd_ne (Ne.symm neSd)]; exact upd_same
  show wpAny _ _ (Builtin.List.listItems (.ref S) >>= fun old => Builtin.List.listUpdate (.ref S) (fun _ => #[]) >>= fun _ => letGo old.toList.reverse >>= fun _ => Builtin.List.listExtendWith (.ref S) (.ref a) .none) _ _ _
  unfold Builtin.List.listItems
  refine wpAny_bind (wpAny_bind (wpAny_seqItems hS rfl (wpAny_pure ?_)))
  show wpAny _ _ (updateSeq S (fun _ => #[]) >>= fun _ => letGo (#[] : Array Value).toList.reverse >>= fun _ => _) _ _ _
  refine wpAny_bind (wpAny_updateSeq hS rfl ?_ (Nat.zero_le _) (Nat.zero_le _))
  refine wpAny_bind (wpAny_letGo ?_)
  have I1' := I1.lset (f := fun _ => #[]) (its := []) (its' := []) (ys := []) (t' := s.toks) hS1 hS rfl .nil (Nat.zero_le _)
  have eH1 : upd H1 S (.lst []) = H1 := by
    funext b
    unfold upd
    split
    · rename_i hb; rw [hb, hS1]
    · rfl
  rw [eH1] at I1'
  generalize hs1 : ({ s with heap := (s.heap.push { cls := .type "list", data := .seq #[] }).update S (Obj.mapSeq (fun _ => #[])) } : Shared) = s1 at I1'
  show wpAny _ _ (Builtin.List.listExtendWith (.ref S) (.ref a) .none) _ _ s1
  have e0 : ∀ {A : Around} {H : Hp} {s : Shared}, A.frames = X.A.frames → Inv X pins σ H s → Env0 X.prog X.w X.K X.mg X.base A X.stack s H := fun ef I => by
    have e := I.env0
    exact ⟨by rw [ef]; exact e.frames, e.mod, e.bs, e.bsz, e.funs, e.frf, e.hok, e.bare⟩
  have rm : Room (k + k' + 2) X.A.in1.in1 := hr.in1.in1
  obtain ⟨odI, J⟩ := Inv.inst I1' ha1
  obtain ⟨m0, hF⟩ := I1'.fr
  unfold Builtin.List.listExtendWith
  refine wpAny_bind (J.type.here ?_)
  have g1 : Builtin.List.listSameRef (.ref S) (.ref a) = false := by simp [Builtin.List.listSameRef, neSa]
  have g2 : (Value.ref C == Value.type "list" || Value.ref C == Value.type "tuple") = false := rfl
  rw [g1, Bool.false_or, g2]
  refine PySem.W.KFB.if_not rfl (wpAny_bind (PySem.W.owit_iter hF I1'.mod.kin J hm.at_ hm.fn ?_))
  have r2 : Vals [V.ref a] [Value.ref a] := .cons rfl .nil
  have hl : ([Value.ref a] ++ []).length = ps.length := by
    rw [← F.len _ _ _ _ hI] <;> rfl
  refine wpAny_call (codeAny_mono (F.run X.A.in1.in1 X.stack _ _ _ _ _ _ _ (rm.mono (by omega)) (e0 rfl I1') (hb _ _ I1'.kIn hl) r2 hI) ?_)
  rintro (er | fl) s2 hq
  · exact (cx_none hq).elim
  cases fl with
  | next => exact False.elim hq
  | brk => exact False.elim hq
  | cont => exact False.elim hq
  | ret u =>
    obtain ⟨v, H2, I2, rv2, it, rfl, hn, sm, hit, hmx, hL⟩ := I1'.after hq
    cases rv2
    have hS2 : H2 S = some (.lst []) := sm _ _ hS1
    have ha2 : H2 a = some (.ins C dx fs) := sm _ _ ha1
    have hd2 : H2 d = some (.frz od (.dK kvs)) := sm _ _ hd1
    have neSI : S ≠ it := ne_of_none hS1 hn
    have nedI : d ≠ it := ne_of_none hd1 hn
    have ltSI : S < it := Nat.lt_of_le_of_ne (hmx _ _ hS2) neSI
    have fin : ∀ s3, Inv X pins σ H2 s3 → codeAny (model X.prog X.w) X.A.in1 (.builtin "list.extend.loop" ⟨[.ref S, .ref it, .none], []⟩) (wants (fun r s₂ => r = .none ∧ EP X pins σ Q (.ref S) s₂) X.xe) s3 := by
      intro s3 I3
      obtain ⟨⟨es, ep, hes, hIt⟩, _⟩ := I3.hok it _ hit
      obtain ⟨ho, hz, hs0, vs, kv, hdo⟩ := I3.hok d _ hd2
      obtain ⟨ep', hat⟩ := hdo.dictAt
      obtain ⟨o, es', z1, z2, z3, z4, z5, z6⟩ := hat
      have eo : o = od := Option.some.inj (z1.symm.trans ho)
      subst eo
      have e2 : es' = es ∧ ep' = ep := by
        rw [hes] at z3
        cases z3
        exact ⟨rfl, rfl⟩
      obtain ⟨rfl, rfl⟩ := e2
      have hsz : es'.size = vs.length := by rw [← z5.length]; simp
      rw [hsz] at hIt
      have hf : FpOk X pins (fun _ => none) it := I.fpOk (by rw [hSS]; exact Nat.le_of_lt ltSI) rfl
      have sn : ∀ b o, H2 b = some o → b ≠ it → (if b = it then none else H2 b) = some o := fun b o e n => by rw [if_neg n]; exact e
      refine items_loop (A := X.A.in1) (X := X) (kvs := kvs) (vs := vs) (ep := ep') (H0 := fun b => if b = it then none else H2 b) hh kv hz (fun h e => ⟨o, es', e, z2, z3, z4, z5, z6⟩) hf (Ne.symm neSI) (sn _ _ hd2 nedI) (sn _ _ hS2 neSI) (fun H' s' ts I' h1 h2 h3 h4 => ?_)
        vs.length 0 _ s3 [] (Nat.sub_zero _) (Nat.zero_le _) (drop_ext I3 hit hf) (by simp) (.inl ⟨rfl, .none, .none, hIt⟩) (fun b o _ e => e) (fun t z => by simp at z) (sn _ _ hS2 neSI) .nil
      have hdd : H' d = some (.frz o (.dK kvs)) := h1 _ _ (Ne.symm neSd) (sn _ _ hd2 nedI)
      have back : ∀ b u, H b = some u → b ≠ d → H' b = some u := fun b u e n => by
        have nS : b ≠ S := ne_of_none e fr
        have e1 : H1 b = some u := by rw [← hH1, upd_ne nS, upd_ne n]; exact e
        exact h1 b u nS (sn _ _ (sm _ _ e1) (ne_of_none e1 hn))
      have old : ∀ t ∈ ts, t ≠ it → H t = none := fun t ht nt => by
        cases e : H t with
        | none => rfl
        | some u =>
          have z := h2 t ht
          rw [if_neg nt] at z
          have nS : t ≠ S := ne_of_none e fr
          by_cases nd : t = d
          · rw [nd, hd2] at z; cases z
          · have e1 : H1 t = some u := by rw [← hH1, upd_ne nS, upd_ne nd]; exact e
            rw [sm _ _ e1] at z; cases z
      refine ⟨rfl, .ref S, _, I'.unlock hdd (I.nofrz hd trivial), rfl, q _ S ts (fun b u e => ?_) fr (fun t ht => ?_) (fun ht => ?_) (by rw [upd_ne neSd]; exact h3) (L2.Paired.mapP h4 fun t p e => ?_)⟩
      · by_cases nd : b = d
        · rw [nd, hd] at e; rw [nd, ← e]; exact upd_same
        · rw [upd_ne nd]; exact back b u e nd
      · by_cases nt : t = it
        · cases e : H t with
          | none => rfl
          | some u =>
            have nS : t ≠ S := ne_of_none e fr
            by_cases nd : t = d
            · exact absurd (nd.symm.trans nt) nedI
            · have e1 : H1 t = some u := by rw [← hH1, upd_ne nS, upd_ne nd]; exact e
              rw [nt, hn] at e1; cases e1
        · exact old t ht nt
      · have z := h2 S ht
        rw [if_neg neSI, hS2] at z; cases z
      · rw [upd_ne (ne_of e hdd (fun z => nomatch z))]; exact e
    have hT : s2.TypeIs (.ref it) "dict_itemiterator" := by
      obtain ⟨⟨_, _, _, e⟩, _⟩ := I2.hok it _ hit
      exact ⟨_, e, rfl⟩
    refine wpAny_specialOf hT PySem.F.slot_dict_itemiterator_next.lookup ?_
    refine wpAny_bind (wpAny_holding (listD_hint FL ⟨rm.in1.mono (by omega), rfl⟩ I2 ha2 hL fun b s3 I3 => ?_))
    refine wpAny_ite_split (fun _ => ?_) fun _ => wpAny_pure ⟨plainId_quiet PySem.F.plain_extend_loop _, fin s3 I3⟩
    exact wpAny_bind (wpAny_rule (wpAny_bind (touch_ok I3 hS2 fun s4 I4 => wpAny_pure ⟨plainId_quiet PySem.F.plain_extend_loop _, fin s4 I4⟩)))
end
end U


set_option maxHeartbeats 4000000
namespace U
open PySem PySem.Spec PyProof.Rows L2
/-! ### plain data -/
inductive Dat where
  | non | bl (b : Bool) | int (i : Int) | str (s : Str)
  | lst (ds : List Dat) | tup (ds : List Dat)
mutual
def Dv (H : Hp) : Dat → V → Prop
  | .non, x => x = .non
  | .bl b, x => x = .bl b
  | .int i, x => x = .int i
  | .str s, x => x = .str s
  | .lst ds, x => ∃ p xs, x = .ref p ∧ xs.length ≤ 1000000 ∧ H p = some (.lst xs) ∧ DvL H ds xs
  | .tup ds, x => ∃ p xs, x = .ref p ∧ xs.length ≤ 1000000 ∧ H p = some (.tup xs) ∧ DvL H ds xs
def DvL (H : Hp) : List Dat → List V → Prop
  | [], xs => xs = []
  | d :: ds, xs => ∃ y ys, xs = y :: ys ∧ Dv H d y ∧ DvL H ds ys
end
mutual
def Dat.dep : Dat → Nat
  | .lst ds => Dat.depL ds + 1
  | .tup ds => Dat.depL ds + 1
  | _ => 0
def Dat.depL : List Dat → Nat
  | [] => 0
  | d :: ds => max d.dep (Dat.depL ds)
end
mutual
theorem Dv.same {H H' : Hp} (s : Same H H') : ∀ {d : Dat} {x : V}, Dv H d x → Dv H' d x
  | .non, _, h => by simpa [Dv] using h
  | .bl _, _, h => by simpa [Dv] using h
  | .int _, _, h => by simpa [Dv] using h
  | .str _, _, h => by simpa [Dv] using h
  | .lst ds, x, h => by
    simp only [Dv] at h ⊢
    obtain ⟨p, xs, e, h0, h1, h2⟩ := h
    exact ⟨p, xs, e, h0, s _ _ h1, DvL.same s h2⟩
  | .tup ds, x, h => by
    simp only [Dv] at h ⊢
    obtain ⟨p, xs, e, h0, h1, h2⟩ := h
    exact ⟨p, xs, e, h0, s _ _ h1, DvL.same s h2⟩
theorem DvL.same {H H' : Hp} (s : Same H H') : ∀ {ds : List Dat} {xs : List V}, DvL H ds xs → DvL H' ds xs
  | [], _, h => by simpa [DvL] using h
  | d :: ds, xs, h => by
    simp only [DvL] at h ⊢
    obtain ⟨y, ys, e, h1, h2⟩ := h
    exact ⟨y, ys, e, Dv.same s h1, DvL.same s h2⟩
end
theorem DvL.length {H : Hp} : ∀ {ds : List Dat} {xs : List V}, DvL H ds xs → xs.length = ds.length
  | [], _, h => by simp only [DvL] at h; rw [h]; rfl
  | d :: ds, xs, h => by
    simp only [DvL] at h
    obtain ⟨y, ys, rfl, _, h2⟩ := h
    simp [DvL.length h2]
theorem DvL.get {H : Hp} : ∀ {ds : List Dat} {xs : List V} {i : Nat} {d : Dat}, DvL H ds xs → ds[i]? = some d → ∃ x, xs[i]? = some x ∧ Dv H d x
  | d :: ds, xs, 0, e, h, hi => by
    simp only [DvL] at h
    obtain ⟨y, ys, rfl, h1, h2⟩ := h
    cases hi
    exact ⟨y, rfl, h1⟩
  | d :: ds, xs, i + 1, e, h, hi => by
    simp only [DvL] at h
    obtain ⟨y, ys, rfl, h1, h2⟩ := h
    exact DvL.get h2 (i := i) (by simpa using hi)
  | [], xs, i, e, h, hi => by simp at hi
theorem Dat.depL_mem : ∀ {ds : List Dat} {d : Dat}, d ∈ ds → d.dep ≤ Dat.depL ds
  | d :: ds, e, h => by
    simp only [Dat.depL]
    rcases List.mem_cons.mp h with rfl | h
    · exact Nat.le_max_left _ _
    · exact Nat.le_trans (Dat.depL_mem h) (Nat.le_max_right _ _)
  | [], e, h => nomatch h
/-- what never runs -/
def sNv : TS := fun _ _ _ => False
theorem ps_nv {X : Cx} {st : Stmt} : PS X st sNv := ⟨fun _ _ _ _ _ _ h => h.elim⟩
theorem pss_nv {X : Cx} {st : List Stmt} : PSs X st sNv := ⟨fun _ _ _ _ _ _ h => h.elim⟩
def eNv : TE := fun _ _ _ => False
theorem pe_nv {X : Cx} {e : Expr} : PE X e eNv := ⟨fun _ _ _ _ _ _ h => h.elim⟩

/-! ### suites -/
structure XF (K : PySem.W.Frag) (C : Addr) : Prop where
  ga : PySem.W.findIn K (.ref C) "__getattribute__" = some (some (.builtin "BaseException.__getattribute__"))
  gg : PySem.W.findIn K (.ref C) "__getattr__" = some none
  exC : PySem.W.subIn K (.ref C) (.type "BaseException") = some true
  hdC : PySem.W.hasDictIn K C = true
  cl : (PySem.W.clsIn K C).isSome = true
  ca : PySem.W.findIn K (.ref C) "__class__" = some (some (.builtin "object.__class__"))
  mo : PySem.W.mroIn K C (.type "object") = some true
  gn : PySem.W.specialIn K (.builtin "object.__class__") "__get__" = some (some (.builtin "getset_descriptor.__get__"))
  tk : PySem.W.takesIn K (.builtin "object.__class__") = some true
section
variable {X : Cx} {a C T : Addr} {oe : Obj} {cls : Value} {d : Option Addr} {pn : List (Addr × Obj)}
/-- isinstance(e, T), e the caught error -/
def rIsX (K : PySem.W.Frag) (a : Addr) (cls : Value) (d : Option Addr) (C : Addr) : List V → Hp → VK → Prop := fun xs H Q => ∃ T dd fs b, xs = [.ref a, .ref T] ∧ cls = .ref C ∧ d = some dd ∧ H dd = some (.xd fs) ∧ PySem.W.kitOne K (.ref C) (.ref T) = some b ∧ Q (.bl b) H
theorem call_isX (F : XF X.K C) (hz : L2N.Zn cls d oe) (hf : ∃ vs, oe.data = .fields vs) : CallR (X.suite a ((a, oe) :: pn)) (.builtin "isinstance") (rIsX X.K a cls d C) := by
  rintro pins s σ H xs us Q I r ⟨T, dd, fs, b, rfl, rfl, rfl, hd, e, q⟩
  cases r with
  | cons rx rr =>
    cases rr with
    | cons rt rr =>
      cases rr
      cases rx
      cases rt
      obtain ⟨ha, _⟩ := I.pin (a, oe) (List.mem_append_left _ List.mem_cons_self)
      obtain ⟨vs, hv⟩ := hf
      obtain ⟨mA, hns, hr⟩ := (I.hok dd _ hd : ObjOk X.prog X.w H s.heap dd (.xd fs))
      obtain ⟨od, ho, hl⟩ := lookIn_ns hns
      have J : PySem.W.InstAt s.heap a oe C (some od) := ⟨ha, hz.1, by unfold PySem.W.notCls; rw [hv] <;> rfl, by rw [hz.2.1]; exact ho⟩
      exact PySem.W.kia_one (PySem.W.kitx_exc F.cl F.ga F.gg F.exC F.ca F.gn F.tk F.mo) I.kIn J e (fun z => nomatch z) fun tk => ⟨.bl b, H, I.tok tk, rfl, q⟩
theorem pe_xf' {e : Expr} {te : TE} {pos : Pos} {n : Str} (F : XF X.K C) (hno : PySem.W.findIn X.K (.ref C) n = some none) (hz : L2N.Zn cls d oe) (hf : ∃ vs, oe.data = .fields vs) (he : PE (X.suite a ((a, oe) :: pn)) e te) (hb : attributeBase e n X.env (eval e X.env) = eval e X.env := by rfl) :
    PE (X.suite a ((a, oe) :: pn)) (.Attribute e n pos) (tXf a cls d C n te) := pe_xf ⟨F.ga, F.gg, F.exC, F.hdC⟩ hno hz.zc hf he hb
theorem hot_suite (hz : L2N.Zn cls d oe) (hf : ∃ vs, oe.data = .fields vs) : L2H.HotC (X.suite a ((a, oe) :: pn)) :=
  ⟨(a, oe), ⟨rfl, hf.imp fun vs h => ⟨h, hz.2.2 vs h⟩⟩, List.mem_cons_self⟩
end
/-! ### a def called where an exception is handled -/
def FnT (P : Program) (w : World) (K : PySem.W.Frag) (mg : Str → Option Value) (base : Heap) (x : Str) (k : Nat) (sp : Sp) : Prop :=
  ∃ (f : Addr) (fd : FuncData) (ps : List Str), mg x = some (.ref f) ∧ PySem.W.keepIn K (.ref f) = true ∧ Binds K fd ps [] ∧ L2H.FnH P w K mg base (L2N.CX P w) k f fd ps sp
theorem pe_fnT {X : Cx} {k : Nat} {sp : Sp} {x : Str} {p pos : Pos} {e : Expr} {es : List Expr} {t : TA} {W : WX} (F : FnT X.prog X.w X.K X.mg X.base x k sp) (hr : L2H.RoomH k X.A) (hc : L2H.HotC X) (tk : L2N.Takes X W) (ha : PA X (e :: es) t) (hg : Gl X x := by rfl) (hdb : (x == ("__debug__" : Str)) = false := by decide)
    (he : starEach (e :: es) X.env = (false, eval e X.env) :: starEach es X.env := by rfl) (hpl : (backTo pos (starEach es X.env)).any (·.1) = false := by rfl) :
    PE X (.Call (.Name x p) (e :: es) [] pos) (tCallS sp (WE W) t) := by
  obtain ⟨f, fd, ps, h1, h2, h3, h4⟩ := F
  exact L2H.pe_callH h4 hr hc hg h1 h2 h3 (fun σ => L2N.passAt tk σ) ha hdb he hpl
theorem fnT_mk {P : Program} {w : World} {K : PySem.W.Frag} {mg : Str → Option Value} {base : Heap} {x qual : Str} {params : Arguments} {body : List Stmt} {scope : Scope} {f : Addr} {fd : FuncData} {N ps : List Str} {k : Nat} {sp : Sp} (F : FunD K x qual params body scope [] [] f fd) (hm : mg x = some (.ref f)) (S : FnScope N ps scope)
    (hb : ∀ (kV doc pm : Value) (an : Option Addr) (cdv ct : Value) (us : List Value), us.length = ps.length → bindArgs (PySem.W.fnOf x qual params body scope .none kV doc pm an cdv ct) ⟨us, []⟩ = pure (ps.zip us))
    (len : ∀ vs H Q E, sp vs H Q E → vs.length = ps.length) {t : WX → TS}
    (hd : ∀ (cdv : Value) (A : Around) (outer : List Env) (s : Shared) (H : Hp) (E : XK) (p : Addr × Obj), L2H.Hot1 A p → L2H.RoomH k (A.deeper (envOfC qual scope s.heap.objs.size f cdv)) → PSs (L2H.cxH (L2N.CX P w) P w K mg base N qual scope f cdv A outer s H E p) body (t fun cls d _ H => E cls d H))
    (hp : ∀ vs H Q E, sp vs H Q E → t (fun cls d _ H => E cls d H) { nx := fun _ H' => Q .non H', rt := Q } (start N vs) H) : FnT P w K mg base x (k + 1) sp := by
  refine ⟨f, fd, ps, hm, F.kp, F.bindsN hb, ?_⟩
  obtain ⟨oc, od, dV, kV, doc, pm, an, cdv, ct, osl, rfl, lk, hcd, _, _⟩ := F.ex
  exact L2H.fn_ofH lk hcd S len fun A outer s H vs Q E p hot hr hsp => ⟨_, hd cdv A outer s H E p hot hr, hp vs H Q E hsp⟩
end U


set_option maxHeartbeats 4000000
namespace UH
open PySem PySem.Spec PyProof.Rows L2 He UX PySem.HandSPX
/-! ### an own exception's facts, read by the head's Hook -/
/-- class x, the class y whose text __init__ is, its field, qualified name, text -/
structure XD where
  x : Str
  y : Str
  f : Str
  q : Str
  st : Stmt
abbrev XW : Type := Option (Str × Str × Arguments × FuncBody × Scope × Addr × List Str × Addr)
def xI (K : PySem.W.Frag) (d : XD) : Addr := ma K (ga K d.x) "__init__"
def obsX (K : PySem.W.Frag) (d : XD) : XW := match K.lookup (xI K d) with
  | some ⟨_, _, .func fd, _⟩ => some (fd.name, fd.qualname, fd.params, fd.body, fd.scope, fd.globals, fd.closure.map (·.1), fd.builtins)
  | _ => none
def valX (d : XD) : XW := some ("__init__", d.q, defArgs d.st, .stmts (defBody d.st), defScope d.st, mainGlobals, ["__class__"], builtinsNs)
def isNone : Value → Bool
  | .none => true
  | _ => false
def clsB (K : PySem.W.Frag) (C : Addr) : Bool := match K.lookup C with
  | some ⟨.type t, _, .cls cd, sl⟩ => (match cd.mro, sl.toList with
    | .ref C' :: bm, [_, _, _, _, some (.builtin n), _] => decide (t = "type") && (decide (C' = C) && (decide (n = "ValueError.__new__") && (!cd.hasDel && (cd.hasDict && refsVE bm))))
    | _, _ => false)
  | _ => false
def codB (K : PySem.W.Frag) (file : Str) (v : Value) : Bool := match v with
  | .ref a => (match K.lookup a with
    | some ⟨_, _, .fields vs, _⟩ => (match (vs[2]? : Option Value) with
      | some (Value.str z _) => file == z
      | _ => false)
    | _ => false)
  | _ => false
def celB (K : PySem.W.Frag) (D : Addr) : List (Str × Addr) → Bool
  | [(_, c)] => (match K.lookup c with
    | some ⟨_, _, .cell (some (.ref E)), _⟩ => decide (E = D)
    | _ => false)
  | _ => false
def funB (K : PySem.W.Frag) (file : Str) (d : XD) : Bool := match K.lookup (xI K d) with
  | some ⟨_, _, .func fd, _⟩ => isNone fd.defaults && (isNone fd.kwdefaults && (PySem.W.codeIn K fd.code d.q && (codB K file fd.code && celB K (ga K d.y) fd.closure)))
  | _ => false
def okX (K : PySem.W.Frag) (file : Str) (d : XD) : Bool :=
  eqO (PySem.W.nsIn K mainGlobals d.x) (some (some (.ref (ga K d.x)))) && (clsB K (ga K d.x) && (eqO (PySem.W.findIn K (.ref (ga K d.x)) "__setattr__") (some (some (.builtin "object.__setattr__"))) && (eqO (PySem.W.findIn K (.ref (ga K d.x)) d.f) (some none) &&
    (eqO (PySem.W.findIn K (.ref (ga K d.x)) "__init__") (some (some (.ref (xI K d)))) && (decide (PySem.W.typeIn K (.ref (xI K d)) = some (.type "function")) && (PySem.W.keepIn K (.ref (ga K d.x)) && (decide (PySem.W.subIn K (.ref (ga K d.x)) (.type "BaseException") = some true) &&
    (decide (PySem.W.subIn K (.ref (ga K d.x)) (.type "ValueError") = some true) && (decide (PySem.W.typeIn K (.ref (ga K d.x)) = some (.type "type")) && (PySem.W.hasDictIn K (ga K d.x) && (eqO (PySem.W.ks_superIn K (ga K d.x) (ga K d.y) "__init__") (some (some (.builtin "ValueError.__init__"))) &&
    (PySem.W.excInitIn K (ga K d.x) veTail "ValueError.__new__" && ((PySem.W.clsIn K (ga K d.y)).isSome && (decide (PySem.W.mroIn K (ga K d.x) (.ref (ga K d.y)) = some true) && (eqO (PySem.W.nsIn K mainGlobals "super") (some none) && (eqO (PySem.W.nsIn K cStatics "thirdparty.any") (some none) && funB K file d))))))))))))))))
/-- the text of such an __init__ -/
structure XText (d : XD) (msg : Str) : Prop where
  ex : ∃ p1 p2 a0 a1 a2 a3 a4 a5 q1 q2 q3 q4 : Pos, defArgs d.st = xA d.f p1 p2 ∧ defBody d.st = [xSup msg a0 a1 a2 a3 a4 a5, xSet d.f q1 q2 q3 q4] ∧ ∃ pl : Env → Sem Bool, ∀ env : Env, eval (.Call (.Attribute (.Call (.Name "super" a0) [] [] a1) "__init__" a2) [.Constant (.str msg) 0 a3] [] a4) env = (do
    let ov ← attributeBase (.Call (.Name "super" a0) [] [] a1) "__init__" env (eval (.Call (.Name "super" a0) [] [] a1) env)
    standAt a2.atName
    let (f, first) ← holding [ov] (getMethod ov "__init__" (pl env))
    callWith a4 f first (backTo a4 (starEach [.Constant (.str msg) 0 a3] env)) [])
  sc : defScope d.st = xS d.f
  fs : ¬ d.f = ("self" : Str)
  fc : ¬ d.f = ("__class__" : Str)
  fu : ¬ d.f = ("super" : Str)
  fd : ¬ d.f = ("__debug__" : Str)
  bnd : ∀ (qual : Str) (doc pm ct cdv v : Value) (an : Option Addr) (cc x : Addr) (p1 p2 : Pos) (body : List Stmt) (sc : Scope), bindArgs (PySem.W.ksFn "__init__" qual (xA d.f p1 p2) body sc .none .none doc pm an cdv ct cc) ⟨[.ref x, v], []⟩ = pure [(("self" : Str), .ref x), (d.f, v)]
theorem clsB_ok {K : PySem.W.Frag} {C : Addr} (h : clsB K C = true) : ∃ nm q N bs bm sn sub ab col dd k0 k1 k2 k3 k5, K.lookup C = some (excClassObj nm q C N bs bm true sn sub ab col dd k0 k1 k2 k3 k5 "ValueError.__new__") ∧ refsVE bm = true := by
  unfold clsB at h
  split at h
  · rename_i t dd cd sl ho
    split at h
    · rename_i C' bm k0 k1 k2 k3 n k5 hm hs
      simp only [Bool.and_eq_true, decide_eq_true_eq, Bool.not_eq_true'] at h
      obtain ⟨rfl, rfl, rfl, hdel, hdc, ht⟩ := h
      obtain ⟨nm, bs, mro, ns, qn, hd, sn, sub, ab, col, del⟩ := cd
      dsimp only at hm hdel hdc
      subst hm hdel hdc
      have hsl : sl = #[k0, k1, k2, k3, some (.builtin "ValueError.__new__"), k5] := by
        rw [← hs]
      subst hsl
      exact ⟨nm, qn, ns, bs, bm, sn, sub, ab, col, dd, k0, k1, k2, k3, k5, ho, ht⟩
    · cases h
  · cases h
theorem xt_of {prog : Program} {K : PySem.W.Frag} {d : XD} {msg : Str} (T : XText d msg) (ptop : (prog.main.scope.names.lookup ("super" : Str)).isSome = false) (e : obsX K d = valX d) (c : okX K prog.main.file d = true) : XT prog K (ga K d.x) (ga K d.y) (xI K d) d.f := by
  unfold okX at c
  simp only [Bool.and_eq_true, decide_eq_true_eq] at c
  obtain ⟨c1, c2, c3, c4, c5, c6, c7, c8, c9, c10, c11, c12, c13, c14, c15, c16, c17, c18⟩ := c
  refine ⟨clsB_ok c2, eqO_ok c3, eqO_ok c4, eqO_ok c5, c6, c7, c8, c9, c10, c11, eqO_ok c12, c13, Option.isSome_iff_exists.mp c14, c15, eqO_ok c16, eqO_ok c17, T.fs, T.fc, T.fu, T.fd, ?_, T.bnd, ptop⟩
  obtain ⟨p1, p2, a0, a1, a2, a3, a4, a5, q1, q2, q3, q4, e1, e2, hpl⟩ := T.ex
  unfold obsX at e
  unfold funB at c18
  cases hl : K.lookup (xI K d) with
  | none => rw [hl] at c18; cases c18
  | some o =>
    obtain ⟨oc, od, dt, osl⟩ := o
    rw [hl] at e c18
    cases dt with
    | func fd =>
      obtain ⟨n1, n2, n3, n4, n5, n6, n7, n8, n9, n10, n11, n12, n13, n14, n15⟩ := fd
      have e' : (some (n1, n2, n3, n4, n5, n6, n7.map (·.1), n15) : XW) = (some (("__init__" : Str), d.q, defArgs d.st, FuncBody.stmts (defBody d.st), defScope d.st, mainGlobals, [("__class__" : Str)], builtinsNs) : XW) := e
      simp only [Option.some.injEq, Prod.mk.injEq] at e'
      obtain ⟨h1, h2, h3, h4, h5, h6, h7, h8⟩ := e'
      have c' : (isNone n8 && (isNone n9 && (PySem.W.codeIn K n13 d.q && (codB K prog.main.file n13 && celB K (ga K d.y) n7)))) = true := c18
      simp only [Bool.and_eq_true] at c'
      obtain ⟨k1, k2, k3, k4, k5⟩ := c'
      have z8 : n8 = .none := by
        cases n8 <;> first | rfl | cases k1
      have z9 : n9 = .none := by
        cases n9 <;> first | rfl | cases k2
      obtain ⟨cda, hc13⟩ : ∃ cda, n13 = .ref cda := by
        cases n13 with
        | ref a => exact ⟨a, rfl⟩
        | _ => cases k4
      subst hc13
      obtain ⟨ccl, cdd, vs, ccs, file, tf, hcda, hvs, hfile⟩ : ∃ (ccl : Value) (cdd : Option Addr) (vs : Array Value) (ccs : Array (Option Value)) (file : Str) (tf : Tok), K.lookup cda = some ⟨ccl, cdd, .fields vs, ccs⟩ ∧ vs[2]? = some (.str file tf) ∧ ((prog.main.file : Str) == file) = true := by
        unfold codB at k4
        simp only at k4
        split at k4
        · rename_i ccl cdd vs ccs h
          split at k4
          · rename_i z t h'
            exact ⟨_, _, _, _, _, _, h, h', k4⟩
          · cases k4
        · cases k4
      obtain ⟨cc, rfl, cl, cld, csl, hcc⟩ : ∃ cc, n7 = [(("__class__" : Str), cc)] ∧ ∃ (cl : Value) (cld : Option Addr) (csl : Array (Option Value)), K.lookup cc = some ⟨cl, cld, .cell (some (.ref (ga K d.y))), csl⟩ := by
        match n7, h7, k5 with
        | [(nm, c)], h7, k5 =>
          have enm : nm = ("__class__" : Str) := by simpa using h7
          subst enm
          refine ⟨c, rfl, ?_⟩
          unfold celB at k5
          simp only at k5
          split at k5
          · rename_i cl cld E csl h
            exact ⟨cl, cld, csl, by rw [h, of_decide_eq_true k5]⟩
          · cases k5
        | [], h7, k5 => cases k5
        | _ :: _ :: _, h7, k5 => cases k5
      subst h1 h2 h3 h4 h5 h6 h8 z8 z9
      refine ⟨oc, od, d.q, msg, n10, n11, n12, cda, cc, n14, osl, p1, p2, a0, a1, a2, a3, a4, a5, q1, q2, q3, q4, ?_, k3, hpl, ⟨ccl, cdd, vs, ccs, file, tf, hcda, hvs, hfile⟩, cl, cld, csl, hcc⟩
      rw [← e1, ← e2, ← T.sc]
    | _ => cases c18
/-! ### the Hook -/
abbrev AlX : Type := Bool × List FnW × List XW
def obsH (fa : List Fa) (fb : List (PySem.W.Frag → Bool)) (fn : List DefD) (xs : List XD) (file : Str) (K : PySem.W.Frag) : AlX :=
  ((fa.all fun f => f.ok K) && (fb.all (fun f => f K) && ((fn.all fun d => d.ok K) && xs.all fun d => okX K file d)), fn.map fun d => fnW K d.at_, xs.map fun d => obsX K d)
def valH (fn : List DefD) (xs : List XD) : AlX := (true, fn.map DefD.val, xs.map valX)
def SaysH (fa : List Fa) (fb : List (PySem.W.Frag → Bool)) (fn : List DefD) (xs : List XD) (file : Str) (K : PySem.W.Frag) : Prop := obsH fa fb fn xs file K = valH fn xs
def obsHG (n : Nat) (fa : List Fa) (fb : List (PySem.W.Frag → Bool)) (fn : List DefD) (xs : List XD) (file : Str) (g : Addr → Option Obj) : AlX := obsH fa fb fn xs file (frG g (cStatics :: asD g n))
def hookH (n : Nat) (fa : List Fa) (fb : List (PySem.W.Frag → Bool)) (fn : List DefD) (xs : List XD) (file : Str) : PySem.W.Hook where
  α := AlX
  obs := fun s => obsHG n fa fb fn xs file s.heap.get?
  val := fun _ => valH fn xs
  says := fun _ h => ∃ K : PySem.W.Frag, K.In h ∧ SaysH fa fb fn xs file K
  of := fun _ s z => ⟨frG s.heap.get? (cStatics :: asD s.heap.get? n), frG_in, z⟩
  keeps := fun _ _ _ ⟨K, y, c⟩ k => ⟨K, PySem.W.Frag.In.keeps y k, c⟩
theorem obsHG_eq {n : Nat} {fa : List Fa} {fb : List (PySem.W.Frag → Bool)} {fn : List DefD} {xs : List XD} {file : Str} {g : Addr → Option Obj} {s : Shared} (h : ∀ a, g a = s.heap.get? a) : obsHG n fa fb fn xs file g = (hookH n fa fb fn xs file).obs s := by
  have e : g = s.heap.get? := funext h
  subst e
  rfl
section
variable {fa : List Fa} {fb : List (PySem.W.Frag → Bool)} {fn : List DefD} {xs : List XD} {file : Str} {K : PySem.W.Frag}
theorem SaysH.all (c : SaysH fa fb fn xs file K) : (∀ f ∈ fa, f.ok K = true) ∧ (∀ f ∈ fb, f K = true) ∧ (∀ d ∈ fn, d.ok K = true) ∧ (∀ d ∈ xs, okX K file d = true) ∧ (fn.map fun d => fnW K d.at_) = fn.map DefD.val ∧ (xs.map fun d => obsX K d) = xs.map valX := by
  have c1 : ((fa.all fun f => f.ok K) && (fb.all (fun f => f K) && ((fn.all fun d => d.ok K) && xs.all fun d => okX K file d))) = true := congrArg (fun z : AlX => z.1) c
  obtain ⟨x1, c1⟩ := ba c1
  obtain ⟨x2, c1⟩ := ba c1
  obtain ⟨x3, x4⟩ := ba c1
  exact ⟨List.all_eq_true.mp x1, List.all_eq_true.mp x2, List.all_eq_true.mp x3, List.all_eq_true.mp x4, congrArg (fun z : AlX => z.2.1) c, congrArg (fun z : AlX => z.2.2) c⟩
theorem SaysH.fact (c : SaysH fa fb fn xs file K) (i : Nat) {f : Fa} (h : fa[i]? = some f := by rfl) : f.ok K = true := c.all.1 f (List.mem_of_getElem? h)
theorem SaysH.bool (c : SaysH fa fb fn xs file K) (i : Nat) {f : PySem.W.Frag → Bool} (h : fb[i]? = some f := by rfl) : f K = true := c.all.2.1 f (List.mem_of_getElem? h)
theorem SaysH.def_ (c : SaysH fa fb fn xs file K) (i : Nat) {d : DefD} (h : fn[i]? = some d := by rfl) : ∃ fd, FunD K d.name d.qual d.params d.body d.scope (d.dvs K) (d.kws K) (fAd K d.at_) fd := by
  obtain ⟨_, _, z3, _, z5, _⟩ := c.all
  have e2 : (fn.map fun d => fnW K d.at_)[i]? = (fn.map DefD.val)[i]? := by rw [z5]
  simp only [List.getElem?_map, h, Option.map_some, Option.some.injEq] at e2
  exact DefD.funD e2 (z3 d (List.mem_of_getElem? h))
theorem SaysH.exc {prog : Program} (c : SaysH fa fb fn xs prog.main.file K) (i : Nat) {d : XD} {msg : Str} (T : XText d msg) (ptop : (prog.main.scope.names.lookup ("super" : Str)).isSome = false) (h : xs[i]? = some d := by rfl) : XT prog K (ga K d.x) (ga K d.y) (xI K d) d.f := by
  obtain ⟨_, _, _, z4, _, z6⟩ := c.all
  have e2 : (xs.map fun d => obsX K d)[i]? = (xs.map valX)[i]? := by rw [z6]
  simp only [List.getElem?_map, h, Option.map_some, Option.some.injEq] at e2
  exact xt_of T ptop e2 (z4 d (List.mem_of_getElem? h))
end
/-! ### facts for the suites, attributes -/
def xfOk (x : Str) (K : PySem.W.Frag) : Bool := eqO (PySem.W.findIn K (.ref (ga K x)) "__getattribute__") (some (some (.builtin "BaseException.__getattribute__"))) && (eqO (PySem.W.findIn K (.ref (ga K x)) "__getattr__") (some none) && (decide (PySem.W.subIn K (.ref (ga K x)) (.type "BaseException") = some true) &&
  (PySem.W.hasDictIn K (ga K x) && ((PySem.W.clsIn K (ga K x)).isSome && (eqO (PySem.W.findIn K (.ref (ga K x)) "__class__") (some (some (.builtin "object.__class__"))) && (decide (PySem.W.mroIn K (ga K x) (.type "object") = some true) &&
  (eqO (PySem.W.specialIn K (.builtin "object.__class__") "__get__") (some (some (.builtin "getset_descriptor.__get__"))) && decide (PySem.W.takesIn K (.builtin "object.__class__") = some true))))))))
theorem xf_of {x : Str} {K : PySem.W.Frag} (h : xfOk x K = true) : U.XF K (ga K x) := by
  unfold xfOk at h
  simp only [Bool.and_eq_true, decide_eq_true_eq] at h
  obtain ⟨h1, h2, h3, h4, h5, h6, h7, h8, h9⟩ := h
  exact ⟨eqO_ok h1, eqO_ok h2, h3, h4, h5, eqO_ok h6, h7, eqO_ok h8, h9⟩
/-- isinstance of an instance of x against the class y: b -/
def kitOk (x y : Str) (b : Bool) (K : PySem.W.Frag) : Bool := decide (PySem.W.kitOne K (.ref (ga K x)) (.ref (ga K y)) = some b)
def noSeqOk (x : Str) (K : PySem.W.Frag) : Bool := PySem.W.noSeq K (ga K x)
def fnInOk (x m : Str) (K : PySem.W.Frag) : Bool := PySem.W.fnIn K (ma K (ga K x) m)
end UH


set_option maxHeartbeats 4000000
namespace U
open PySem PySem.Spec PyProof.Rows L2
/-! ### dicts -/
abbrev qLenD : List V → Hp → VK → Prop := fun xs H Q => ∃ a kvs, xs = [V.ref a] ∧ Rd H a (.dK kvs) ∧ Q (.int kvs.length) H
theorem call_lenDR {X : Cx} : CallR X (.builtin "len") qLenD := by
  rintro pins s σ H xs us Q I r ⟨a, kvs, rfl, ha, q⟩
  obtain rfl := Vals.ref1 r
  exact d_len I ha fun t s' I' => ⟨.int kvs.length, H, I', ⟨t, rfl⟩, q⟩
def rDg (x y : V) (H : Hp) (Q : VK) : Prop := ∃ a v, x = .ref a ∧ DGet H a y (some v) ∧ Q v H
def rDin (y x : V) (H : Hp) (Q : VK) : Prop := ∃ a o, x = .ref a ∧ DGet H a y o ∧ Q (.bl o.isSome) H
def rDnin (y x : V) (H : Hp) (Q : VK) : Prop := ∃ a o, x = .ref a ∧ DGet H a y o ∧ Q (.bl (!o.isSome)) H
def rDp (x y v : V) (H : Hp) (R : Hp → Prop) : Prop := ∃ a H4, x = .ref a ∧ DPut H a y v H4 ∧ R H4
def rB (x : V) (H : Hp) (Q : Bool → Hp → Prop) : Prop := ∃ c, x = .bl c ∧ Q c H
section
variable {K : PySem.W.Frag} {σ : St} {H : Hp} {Q : VK} {D : Ends} {R : St → Hp → Prop} {ta tb tc : TE} {a d : Addr} {kvs : List (Key × V)}
theorem s_dget (q : ta σ H fun x H1 => tb σ H1 fun y H2 => rDg x y H2 Q) : tDGet ta tb σ H Q := q
theorem s_din (q : ta σ H fun y H1 => tb σ H1 fun x H2 => rDin y x H2 Q) : tDIn ta tb σ H Q := q
theorem s_dnin (q : ta σ H fun y H1 => tb σ H1 fun x H2 => rDnin y x H2 Q) : tDNotIn ta tb σ H Q := q
theorem s_dput (q : tc σ H fun v H1 => ta σ H1 fun x H2 => tb σ H2 fun y H3 => rDp x y v H3 fun H4 => D.nx σ H4) : sDPut ta tb tc D σ H := q
theorem s_dgS {k : Str} {v : V} (h : H d = some (.dK kvs)) (e : valV kvs (.inr k) = some v) (q : Q v H) : rDg (.ref d) (.str k) H Q := ⟨d, v, rfl, by rw [← e]; exact DGet.k (k := .inr k) h, q⟩
theorem s_dinS {k : Str} (h : H d = some (.dK kvs)) (q : Q (.bl (valV kvs (.inr k)).isSome) H) : rDin (.str k) (.ref d) H Q := ⟨d, _, rfl, DGet.k (k := .inr k) h, q⟩
theorem s_dninS {k : Str} (h : H d = some (.dK kvs)) (q : Q (.bl (!(valV kvs (.inr k)).isSome)) H) : rDnin (.str k) (.ref d) H Q := ⟨d, _, rfl, DGet.k (k := .inr k) h, q⟩
theorem s_dpS {k : Str} {v : V} {R : Hp → Prop} (h : H d = some (.dK kvs)) (hl : kvs.length ≤ 1000) (q : ∀ H1, H1 d = some (.dK (putK kvs (.inr k) v)) → Ext d H H1 → R H1) : rDp (.ref d) (.str k) v H R :=
  ⟨d, _, rfl, DPut.k (k := .inr k) h (Nat.lt_of_le_of_lt hl (by decide)), q _ upd_same Ext.upd⟩
theorem s_dlen (h : H d = some (.dK kvs)) (q : Q (.int kvs.length) H) : qLenD [.ref d] H Q := ⟨d, kvs, rfl, .inl h, q⟩
theorem s_dlenF {o : Obj} (h : H d = some (.frz o (.dK kvs))) (q : Q (.int kvs.length) H) : qLenD [.ref d] H Q := ⟨d, kvs, rfl, .inr ⟨o, h⟩, q⟩
theorem s_dnew (q : ∀ p H1, H p = none → H1 p = some (.dK []) → Same H H1 → Q (.ref p) H1) : tDNewK σ H Q := s_new q
/-! ### attributes, calls of methods, makers -/
theorem s_fld {Cs : List Addr} {ks : List Str} {i : Nat} (q : ta σ H fun x H1 => rFld Cs ks i x H1 Q) : qFld Cs ks i ta σ H Q := q
theorem s_fldv {C : Addr} {Cs : List Addr} {ks : List Str} {i : Nat} {dx : Addr} {vs : List V} {v : V} (h : H a = some (.ins C dx (ks.zip vs))) (hc : C ∈ Cs) (e : vs[i]? = some v) (q : Q v H) : rFld Cs ks i (.ref a) H Q := ⟨a, C, dx, vs, v, rfl, h, hc, e, q⟩
theorem s_fldS {Cs : List Addr} {ks : List Str} {i : Nat} (q : tb σ H fun y H1 => ta σ H1 fun x H2 => rFldS Cs ks i x y H2 fun H3 => D.nx σ H3) : qFldS Cs ks i ta tb D σ H := q
theorem s_fldSv {C : Addr} {Cs : List Addr} {ks : List Str} {i : Nat} {dx : Addr} {vs : List V} {y : V} {R : Hp → Prop} (h : H a = some (.ins C dx (ks.zip vs))) (hc : C ∈ Cs) (e : i ≤ vs.length) (q : ∀ H1, H1 a = some (.ins C dx (ks.zip (setV vs i y))) → Ext a H H1 → R H1) : rFldS Cs ks i (.ref a) y H R :=
  ⟨a, C, dx, vs, rfl, h, hc, e, q _ upd_same Ext.upd⟩
theorem s_me {C : Addr} {ks : List Str} {sp : Sp} {E : St → XK} {t : TA} (q : ta σ H fun x H1 => rMe C ks x H1 fun a => t σ H1 fun ws H2 => sp (.ref a :: ws) H2 Q (E σ)) : tMe C ks sp E ta t σ H Q := q
theorem s_mev {C : Addr} {ks : List Str} {R : Addr → Prop} {dx : Addr} {vs : List V} (h : H a = some (.ins C dx (ks.zip vs))) (q : R a) : rMe C ks (.ref a) H R := ⟨a, dx, vs, rfl, h, q⟩
theorem s_mk {C : Addr} {sp : Sp} {E : St → XK} {t : TA} (q : t σ H fun vs H1 => ∀ x dx H2, H1 x = none → H2 x = some (.ins C dx []) → Same H1 H2 → sp (.ref x :: vs) H2 (fun v H3 => v = .non ∧ Q (.ref x) H3) (E σ)) (mono : ∀ Q1 Q2 : List V → Hp → Prop, (∀ vs H, Q1 vs H → Q2 vs H) → t σ H Q1 → t σ H Q2) : tMk C sp E t σ H Q := by
  refine mono _ _ (fun vs H1 h => ?_) q
  intro x dx hx hd ne
  refine h x dx _ hx upd_same fun b o e => ?_
  rw [upd_ne (ne_of_none e hx), upd_ne (ne_of_none e hd)]
  exact e
theorem s_mk0 {C : Addr} {sp : Sp} {E : St → XK} (q : ∀ x dx H2, H x = none → H2 x = some (.ins C dx []) → Same H H2 → sp [.ref x] H2 (fun v H3 => v = .non ∧ Q (.ref x) H3) (E σ)) : tMk C sp E tNil σ H Q := s_mk q fun _ _ h => h _ _
theorem s_gown {C : Addr} {sp : Sp} {E : St → XK} (q : ta σ H fun x H1 => tb σ H1 fun y H2 => rGetOwn C x H2 fun a => sp [.ref a, y] H2 Q (E σ)) : tGetOwn C sp E ta tb σ H Q := q
theorem s_gownv {C : Addr} {R : Addr → Prop} {dx : Addr} {fs : List (Str × V)} (h : H a = some (.ins C dx fs)) (q : R a) : rGetOwn C (.ref a) H R := ⟨a, dx, fs, rfl, h, q⟩
theorem s_setown {C : Addr} {sp : Sp} {dx : Addr} {fs : List (Str × V)} {i v : V} {R : Hp → Prop} (h : H a = some (.ins C dx fs)) (q : sp [.ref a, i, v] H (fun _ H' => R H') E0) : rSetOwn C sp (.ref a) i v H R := ⟨a, dx, fs, rfl, h, q⟩
theorem s_inown {C : Addr} {neg : Bool} {sp : Sp} {dx : Addr} {fs : List (Str × V)} {x : V} (h : H a = some (.ins C dx fs)) (q : sp [.ref a, x] H (fun v H' => ∃ b, v = .bl b ∧ Q (.bl (if neg then !b else b)) H') E0) : rInOwn C neg sp x (.ref a) H Q := ⟨a, dx, fs, rfl, h, q⟩
theorem s_lenown {C : Addr} {sp : Sp} {dx : Addr} {fs : List (Str × V)} (h : H a = some (.ins C dx fs)) (q : sp [.ref a] H (fun v H' => ∃ n : Nat, v = .int n ∧ n < 2 ^ 62 ∧ Q (.int n) H') E0) : rLenOwn C sp [.ref a] H Q := ⟨a, dx, fs, rfl, h, q⟩
/-- try: body, except c as the i-th name: suite -/
def tTryAs (K : PySem.W.Frag) (c : Value) (i : Nat) (tb : WX → TS) (ts : Addr → Value → Option Addr → TS) (Wout : WX) : TS := fun D σ H => tb (wAs K c i ts Wout D) D σ H
theorem s_try {K : PySem.W.Frag} {c : Value} {i : Nat} {tb : WX → TS} {ts : Addr → Value → Option Addr → TS} {Wout : WX} (q : tb (wAs K c i ts Wout D) D σ H) : tTryAs K c i tb ts Wout D σ H := q
theorem roomS {j k : Nat} {A A' : Around} (hr : Room k A) (h : j ≤ k) (hd : A'.depth = A.depth := by rfl) (hu : A'.units = A.units := by rfl) : L2H.RoomH j A' := by
  have z := L2H.roomH_of (hr.mono h)
  exact ⟨by rw [hd]; exact z.dp, by rw [hu]; exact z.un⟩
def rIxLT (K : PySem.W.Frag) : R2 := fun x y H Q => rIxL K x y H Q ∨ rIxT K x y H Q
theorem ix_lt {X : Cx} : IxR X (rIxLT X.K) := IxR.or ix_list ix_tup
/-! ### tests, values -/
theorem s_tb {Q : Bool → Hp → Prop} (q : ta σ H fun x H1 => rB x H1 Q) : tB ta σ H Q := q
theorem s_rb {b : Bool} {Q : Bool → Hp → Prop} (q : Q b H) : rB (.bl b) H Q := ⟨b, rfl, q⟩
theorem s_notV (q : ta σ H fun x H1 => rB x H1 fun c H1 => Q (.bl (!c)) H1) : tNotV ta σ H Q := q
theorem s_andV (q : ta σ H fun x H1 => rB x H1 fun c H1 => if c = true then tb σ H1 Q else Q (.bl false) H1) : tAndV ta tb σ H Q := by
  refine Eq.mp ?_ q
  rfl
theorem s_orV (q : ta σ H fun x H1 => rB x H1 fun c H1 => if c = true then Q (.bl true) H1 else tb σ H1 Q) : tOrV ta tb σ H Q := q
theorem s_ifE {t : TT} (q : t σ H fun c H1 => if c = true then ta σ H1 Q else tb σ H1 Q) : tIf t ta tb σ H Q := q
theorem s_isN {x : V} (q : Q (.bl (decide (x = .non))) H) : qIsN x .non H Q := ⟨rfl, q⟩
theorem s_notN {x : V} (q : Q (.bl (!decide (x = .non))) H) : qNotN x .non H Q := ⟨rfl, q⟩
theorem s_isT {T t : String} {x : V} (e : tyB H x = some t) (q : Q (.bl (isTb t T)) H) : rIsT T [x, .ty T] H Q := ⟨x, t, rfl, e, q⟩
theorem s_eq {x y : V} (e : scal x y = true) (q : Q (.bl (decide (x = y))) H) : rEq x y H Q := ⟨e, q⟩
theorem s_ne {x y : V} (e : scal x y = true) (q : Q (.bl (!decide (x = y))) H) : rNe x y H Q := ⟨e, q⟩
theorem s_rt0 (q : D.rt .non H) : tRetN D σ H := q
theorem s_if2 {A B : Prop} {b : Bool} (h1 : b = true → A) (h2 : b = false → B) : if b = true then A else B := by
  cases b with
  | true => exact h1 rfl
  | false => exact (by simpa using h2 rfl)
theorem s_app {l : Addr} {xs : List V} {y : V} (h : H l = some (.lst xs)) (hl : xs.length ≤ 1000) (q : ∀ H1, H1 l = some (.lst (xs ++ [y])) → Ext l H H1 → Q .non H1) : rAppend (.ref l) [y] H Q := ⟨l, xs, y, rfl, rfl, h, Nat.lt_of_le_of_lt hl (by decide), q _ upd_same Ext.upd⟩
theorem s_bm {T : String} {r : V → List V → Hp → VK → Prop} {t : TA} (q : ta σ H fun x H1 => tyV K T x H1 ∧ t σ H1 fun xs H2 => r x xs H2 Q) : tBM K T r ta t σ H Q := q
theorem s_tyl {l : Addr} {xs : List V} {A : Prop} (h : H l = some (.lst xs)) (q : A) : tyV K "list" (.ref l) H ∧ A := ⟨.inl ⟨rfl, xs, .inl (.inl h)⟩, q⟩
theorem s_ixt {p : Addr} {xs : List V} {i : Int} {v : V} (h : H p = some (.tup xs)) (e : atI xs i = some v) (q : Q v H) : rIxT K (.ref p) (.int i) H Q := ⟨p, xs, i, v, rfl, rfl, .inl (.inl h), e, q⟩
theorem s_lent {p : Addr} {xs : List V} (h : H p = some (.tup xs)) (q : Q (.int xs.length) H) : qLen K [.ref p] H Q := ⟨_, _, rfl, .inr ⟨xs, .inl (.inl h), rfl⟩, q⟩
theorem s_cat {l b : Addr} {xs zs : List V} (h : H l = some (.lst xs)) (h2 : H b = some (.lst zs)) (hl : xs.length + zs.length ≤ 10000) (q : ∀ p H1, H p = none → H1 p = some (.lst (xs ++ zs)) → Same H H1 → Q (.ref p) H1) : rCat (.ref l) (.ref b) H Q := ⟨l, b, xs, zs, rfl, rfl, h, h2, Nat.le_trans hl (by decide), s_new q⟩
theorem s_in {p : Addr} {xs : List V} {x : V} {neg : Bool} (h : H p = some (.lst xs)) (fx : flatV x = true) (fs : xs.all flatV = true) (q : Q (.bl (if neg then !inV x xs else inV x xs)) H) : rIn K neg x (.ref p) H Q := ⟨p, xs, rfl, .inl (.inl (.inl h)), fx, fs, q⟩
theorem s_listof {p : Addr} {xs : List V} (h : H p = some (.lst xs)) (q : ∀ l H1, H l = none → H1 l = some (.lst xs) → Same H H1 → Q (.ref l) H1) : qListOf K [.ref p] H Q := ⟨p, xs, rfl, .inl (.inl (.inl h)), s_new q⟩
theorem s_listofS {p : Addr} {xs : List V} (h : SqL K H p xs) (q : ∀ l H1, H l = none → H1 l = some (.lst xs) → Same H H1 → Q (.ref l) H1) : qListOf K [.ref p] H Q := ⟨p, xs, rfl, .inl h, s_new q⟩
def rRx (C : Addr) (f : Str) (W : WX) (σ : St) (vs : List V) (H : Hp) : Prop := ∃ v, vs = [v] ∧ ∀ d, H d = none → W (.ref C) (some d) σ (upd H d (.xd [(f, v)]))
theorem s_raiseX {C : Addr} {f : Str} {W : WX} {t : TA} (q : t σ H fun vs H1 => rRx C f W σ vs H1) : tRaiseX C f W t D σ H := q
theorem s_rx {C : Addr} {f : Str} {W : WX} {v : V} (q : ∀ d H2, H d = none → H2 d = some (.xd [(f, v)]) → Same H H2 → W (.ref C) (some d) σ H2) : rRx C f W σ [v] H :=
  ⟨v, rfl, fun d hd => q d _ hd upd_same fun b o e => by rw [upd_ne (ne_of_none e hd)]; exact e⟩
theorem s_ifbT {A B : Prop} {b : Bool} (h : b = true) (q : A) : if b = true then A else B := by rw [if_pos h]; exact q
theorem s_ifbF {A B : Prop} {b : Bool} (h : b = false) (q : B) : if b = true then A else B := by rw [h]; exact q
theorem ty_l {p : Addr} {xs : List V} (h : H p = some (.lst xs)) : tyB H (.ref p) = some "list" := by
  show tyR (H p) = _
  rw [h]; rfl
theorem ty_t {p : Addr} {xs : List V} (h : H p = some (.tup xs)) : tyB H (.ref p) = some "tuple" := by
  show tyR (H p) = _
  rw [h]; rfl
theorem s_ixltL {p : Addr} {xs : List V} {i : Int} {v : V} (h : H p = some (.lst xs)) (e : atI xs i = some v) (q : Q v H) : rIxLT K (.ref p) (.int i) H Q := .inl (s_ixl h e q)
theorem s_ixltT {p : Addr} {xs : List V} {i : Int} {v : V} (h : H p = some (.tup xs)) (e : atI xs i = some v) (q : Q v H) : rIxLT K (.ref p) (.int i) H Q := .inr (s_ixt h e q)
theorem atI_nat' {xs : List V} {i : Nat} {v : V} (h : xs[i]? = some v) : atI xs ((0 : Int) + (i : Nat)) = some v := by
  rw [Int.zero_add]
  unfold atI ixN
  have hl : i < xs.length := (List.getElem?_eq_some_iff.mp h).1
  rw [if_pos (by omega), Int.toNat_natCast, if_pos (by omega)]
  exact h
end
end U


set_option maxHeartbeats 4000000
namespace U
open PySem PySem.Spec PyProof.Rows L2
/-! ### list comprehensions that make data -/
/-- the heap without D -/
def del (H : Hp) (D : Addr) : Hp := fun b => if b = D then none else H b
theorem del_same {H : Hp} {D : Addr} : Same (del H D) H := fun b o e => by
  unfold del at e
  split at e
  · cases e
  · exact e
theorem del_at {H : Hp} {D b : Addr} {o : HO} (e : H b = some o) (n : b ≠ D) : del H D b = some o := by
  unfold del
  rw [if_neg n]
  exact e
theorem del_ext {H H' : Hp} {D : Addr} (e : Ext D H H') : Same (del H D) (del H' D) := fun b o h => by
  unfold del at h ⊢
  split at h
  · cases h
  · rename_i n
    rw [if_neg n]
    exact e b o h n
theorem DvL.snoc {H : Hp} : ∀ {ds : List Dat} {xs : List V} {d : Dat} {y : V}, DvL H ds xs → Dv H d y → DvL H (ds ++ [d]) (xs ++ [y])
  | [], xs, d, y, h, k => by
    simp only [DvL] at h
    subst h
    exact ⟨y, [], rfl, k, rfl⟩
  | e :: ds, xs, d, y, h, k => by
    simp only [DvL] at h
    obtain ⟨z, zs, rfl, h1, h2⟩ := h
    exact ⟨z, zs ++ [y], rfl, h1, DvL.snoc h2 k⟩
/-- [te for g in l if tt]: F i, the data behind i turns -/
def rLcB (g : TG) (tt : TT) (te : TE) (vs : List Nat) (σ : St) (v : V) (H : Hp) (Q : VK) : Prop := ∃ (a : Addr) (xs : List V) (F : Nat → List Dat), v = .ref a ∧ H a = some (.lst xs) ∧ xs.length ≤ 1000000 ∧ F 0 = [] ∧
  (∀ i x H' D acc (R1 : VK) (R0 : Hp → Prop), xs[i]? = some x → Same H H' → H D = none → H' D = some (.lst acc) → (∀ y H4 d, F (i + 1) = F i ++ [d] → Same H' H4 → Dv (del H4 D) d y → R1 y H4) → (∀ H3, Same H' H3 → F (i + 1) = F i → R0 H3) →
    g x (wipe σ vs) H' fun σ2 H2 => wipe σ2 vs = wipe σ vs ∧ tt σ2 H2 fun b H3 => if b = true then te σ2 H3 R1 else R0 H3) ∧
  ∀ D H2 ys, Same H H2 → H D = none → H2 D = some (.lst ys) → ys.length ≤ xs.length → DvL (del H2 D) (F xs.length) ys → Q (.ref D) H2
def rLcL (K : PySem.W.Frag) (g : TG) (tt : TT) (te : TE) (vs : List Nat) (σ : St) (x : V) (H1 : Hp) (Q : VK) : Prop := tLc (iList K (tC x)) g tt te vs σ H1 Q
theorem s_lc0 {K : PySem.W.Frag} {tl : TE} {g : TG} {tt : TT} {te : TE} {vs : List Nat} {σ : St} {H : Hp} {Q : VK} (q : tl σ H fun x H1 => rLcL K g tt te vs σ x H1 Q) : tLc (iList K tl) g tt te vs σ H Q := q
theorem s_lc1 {K : PySem.W.Frag} {g : TG} {tt : TT} {te : TE} {vs : List Nat} {σ : St} {x : V} {H1 : Hp} {Q : VK} (h : rLcB g tt te vs σ x H1 Q) : rLcL K g tt te vs σ x H1 Q := by
  obtain ⟨a, xs, F, rfl, ha, hl, hF, step, fin⟩ := h
  refine ⟨a, rfl, ⟨xs, .inl (.inl ha)⟩, fun D hD => ?_⟩
  have neD : ∀ b o, H1 b = some o → b ≠ D := fun b o e => ne_of_none e hD
  refine lc_list (K := K) (a := a) (xs := xs) (fun i H' => Same H1 H' ∧ i ≤ xs.length ∧ ∃ acc, H' D = some (.lst acc) ∧ acc.length ≤ i ∧ DvL (del H' D) (F i) acc) ⟨fun b o e => by rw [upd_ne (neD b o e)]; exact e, Nat.zero_le _, [], upd_same, Nat.le_refl _, by rw [hF]; rfl⟩ (fun i H' _ h => .inl (.inl (h.1 _ _ ha))) ?_ ?_
  · rintro i x H' hx ⟨sm, hi, acc, hacc, hlen, hdv⟩
    have hi' : i + 1 ≤ xs.length := (List.getElem?_eq_some_iff.mp hx).1
    refine (step i x H' D acc (fun y H4 => ∃ acc, H4 D = some (.lst acc) ∧ acc.length < sizeLine ∧ Same H1 (upd H4 D (.lst (acc ++ [y]))) ∧ i + 1 ≤ xs.length ∧ ∃ acc', upd H4 D (.lst (acc ++ [y])) D = some (.lst acc') ∧ acc'.length ≤ i + 1 ∧ DvL (del (upd H4 D (.lst (acc ++ [y]))) D) (F (i + 1)) acc')
      (fun H3 => Same H1 H3 ∧ i + 1 ≤ xs.length ∧ ∃ acc, H3 D = some (.lst acc) ∧ acc.length ≤ i + 1 ∧ DvL (del H3 D) (F (i + 1)) acc) hx sm hD hacc (fun y H4 d e1 s4 dv => ?_) fun H3 s3 e1 => ?_)
    · refine ⟨acc, s4 _ _ hacc, ?_, fun b o e => ?_, hi', _, upd_same, by rw [List.length_append, List.length_singleton]; omega, ?_⟩
      · rw [sizeLine_eq]; omega
      · rw [upd_ne (neD b o e)]
        exact s4 _ _ (sm _ _ e)
      · rw [e1]
        have up : Same (del H4 D) (del (upd H4 D (.lst (acc ++ [y]))) D) := del_ext Ext.upd
        exact DvL.snoc (DvL.same up (DvL.same (del_ext (Ext.of s4)) hdv)) (Dv.same up dv)
    · rw [e1]
      exact ⟨sm.trans s3, hi', acc, s3 _ _ hacc, by omega, DvL.same (del_ext (Ext.of s3)) hdv⟩
  · rintro H' ⟨sm, _, acc, hacc, hlen, hdv⟩
    exact fin D H' acc sm hD hacc hlen hdv
theorem take_snoc {α : Type} {ps : List α} {i : Nat} {p : α} (h : ps[i]? = some p) : ps.take (i + 1) = ps.take i ++ [p] := by
  rw [List.take_succ, h]; rfl
/-- .. each kept p of ps gives the data f p -/
theorem s_lcF {K : PySem.W.Frag} {g : TG} {tt : TT} {te : TE} {vs : List Nat} {σ : St} {a : Addr} {H1 : Hp} {Q : VK} {α : Type} {xs : List V} (ps : List α) (kp : α → Bool) (f : α → Dat) (ha : H1 a = some (.lst xs)) (hl : xs.length = ps.length) (hz : ps.length ≤ 1000000)
    (step : ∀ (i : Nat) (p : α) (x : V) (H' : Hp) (D : Addr) (acc : List V) (R1 : VK) (R0 : Hp → Prop), ps[i]? = some p → xs[i]? = some x → Same H1 H' → H1 D = none → H' D = some (.lst acc) → (kp p = true → ∀ y H4, Same H' H4 → Dv (del H4 D) (f p) y → R1 y H4) → (kp p = false → ∀ H3, Same H' H3 → R0 H3) →
      g x (wipe σ vs) H' fun σ2 H2 => wipe σ2 vs = wipe σ vs ∧ tt σ2 H2 fun b H3 => if b = true then te σ2 H3 R1 else R0 H3)
    (fin : ∀ D H2 ys, Same H1 H2 → H1 D = none → H2 D = some (.lst ys) → ys.length ≤ ps.length → DvL (del H2 D) ((ps.filter kp).map f) ys → Q (.ref D) H2) : rLcL K g tt te vs σ (.ref a) H1 Q := by
  refine s_lc1 ⟨a, xs, fun i => ((ps.take i).filter kp).map f, rfl, ha, by omega, rfl, fun i x H' D acc R1 R0 hx sm hD hacc k1 k0 => ?_, fun D H2 ys sm hD hys hl' hdv => ?_⟩
  · have hi : i < ps.length := by rw [← hl]; exact (List.getElem?_eq_some_iff.mp hx).1
    refine step i ps[i] x H' D acc R1 R0 (List.getElem?_eq_getElem hi) hx sm hD hacc (fun e y H4 s4 dv => k1 y H4 _ ?_ s4 dv) fun e H3 s3 => k0 H3 s3 ?_
    · show ((ps.take (i + 1)).filter kp).map f = ((ps.take i).filter kp).map f ++ [f ps[i]]
      rw [take_snoc (List.getElem?_eq_getElem hi), List.filter_append, List.map_append]
      simp [e]
    · show ((ps.take (i + 1)).filter kp).map f = ((ps.take i).filter kp).map f
      rw [take_snoc (List.getElem?_eq_getElem hi), List.filter_append, List.map_append]
      simp [e]
  · refine fin D H2 ys sm hD hys (by omega) ?_
    have e : ((ps.take xs.length).filter kp).map f = (ps.filter kp).map f := by rw [List.take_of_length_le (by omega)]
    rw [← e]
    exact hdv
/-- .. all kept -/
theorem s_lcM {K : PySem.W.Frag} {g : TG} {te : TE} {vs : List Nat} {σ : St} {a : Addr} {H1 : Hp} {Q : VK} {α : Type} {xs : List V} (ps : List α) (f : α → Dat) (ha : H1 a = some (.lst xs)) (hl : xs.length = ps.length) (hz : ps.length ≤ 1000000)
    (step : ∀ (i : Nat) (p : α) (x : V) (H' : Hp) (D : Addr) (acc : List V) (R1 : VK), ps[i]? = some p → xs[i]? = some x → Same H1 H' → H1 D = none → H' D = some (.lst acc) → (∀ y H4, Same H' H4 → Dv (del H4 D) (f p) y → R1 y H4) → g x (wipe σ vs) H' fun σ2 H2 => wipe σ2 vs = wipe σ vs ∧ te σ2 H2 R1)
    (fin : ∀ D H2 ys, Same H1 H2 → H1 D = none → H2 D = some (.lst ys) → ys.length ≤ ps.length → DvL (del H2 D) (ps.map f) ys → Q (.ref D) H2) (gm : ∀ x σ H (R1 R2 : St → Hp → Prop), (∀ σ H, R1 σ H → R2 σ H) → g x σ H R1 → g x σ H R2) : rLcL K g tYes te vs σ (.ref a) H1 Q := by
  refine s_lcF ps (fun _ => true) f ha hl hz (fun i p x H' D acc R1 R0 h1 h2 h3 h4 h5 k1 _ => gm _ _ _ _ _ (fun σ2 H2 z => ⟨z.1, ?_⟩) (step i p x H' D acc R1 h1 h2 h3 h4 h5 (k1 rfl))) fun D H2 ys h1 h2 h3 h4 h5 => fin D H2 ys h1 h2 h3 h4 (by rw [List.filter_eq_self.mpr (fun _ _ => rfl)] at h5; exact h5)
  show (if true = true then te σ2 H2 R1 else R0 H2)
  rw [if_pos rfl]
  exact z.2
theorem gm_name {i : Nat} : ∀ x σ H (R1 R2 : St → Hp → Prop), (∀ σ H, R1 σ H → R2 σ H) → gName i x σ H R1 → gName i x σ H R2 := fun _ _ _ _ _ h q => h _ _ q
/-! ### loops -/
def rForL (K : PySem.W.Frag) (g : TG) (tb : TS) (D : Ends) (σ : L2.St) (x : V) (H : Hp) : Prop := tFor (iList K (tC x)) g tb D σ H
def rForT (K : PySem.W.Frag) (g : TG) (tb : TS) (D : Ends) (σ : L2.St) (x : V) (H : Hp) : Prop := tFor (iTup K (tC x)) g tb D σ H
def rForR (g : TG) (tb : TS) (D : Ends) (σ : L2.St) (vs : List V) (H : Hp) : Prop := tFor (iRng1 fun _ H Q => Q vs H) g tb D σ H
def rForR2 (g : TG) (tb : TS) (D : Ends) (σ : L2.St) (vs : List V) (H : Hp) : Prop := tFor (iRng2 fun _ H Q => Q vs H) g tb D σ H
section
variable {K : PySem.W.Frag} {g : TG} {tb : TS} {D : Ends} {σ : L2.St} {H : Hp} {tl : TE} {ta : TA} {a : Addr} {xs : List V}
theorem s_forL (q : tl σ H fun x H1 => rForL K g tb D σ x H1) : tFor (iList K tl) g tb D σ H := q
theorem s_forT (q : tl σ H fun x H1 => rForT K g tb D σ x H1) : tFor (iTup K tl) g tb D σ H := q
theorem s_forR (q : ta σ H fun x H1 => rForR g tb D σ x H1) : tFor (iRng1 ta) g tb D σ H := q
theorem s_forR2 (q : ta σ H fun x H1 => rForR2 g tb D σ x H1) : tFor (iRng2 ta) g tb D σ H := q
theorem s_forL1 (ha : H a = some (.lst xs)) (Pv : Nat → L2.St → Hp → Prop) (h0 : Pv 0 σ H) (hl : ∀ i σ H, i ≤ xs.length → Pv i σ H → H a = some (.lst xs))
    (hs : ∀ i x σ H, xs[i]? = some x → Pv i σ H → g x σ H fun σ2 H2 => tb { D with nx := Pv (i + 1), ct := Pv (i + 1), bk := D.nx } σ2 H2) (hd : ∀ σ H, Pv xs.length σ H → D.nx σ H) : rForL K g tb D σ (.ref a) H :=
  ⟨a, rfl, ⟨xs, .inl (.inl ha)⟩, for_list (K := K) (a := a) (xs := xs) Pv h0 (fun i σ H hi h => .inl (.inl (hl i σ H hi h))) hs hd⟩
theorem s_forT1 (ha : H a = some (.tup xs)) (Pv : Nat → L2.St → Hp → Prop) (h0 : Pv 0 σ H) (hl : ∀ i σ H, i ≤ xs.length → Pv i σ H → H a = some (.tup xs))
    (hs : ∀ i x σ H, xs[i]? = some x → Pv i σ H → g x σ H fun σ2 H2 => tb { D with nx := Pv (i + 1), ct := Pv (i + 1), bk := D.nx } σ2 H2) (hd : ∀ σ H, Pv xs.length σ H → D.nx σ H) : rForT K g tb D σ (.ref a) H :=
  ⟨a, rfl, ⟨xs, .inl (.inl ha)⟩, for_tup (K := K) (a := a) (xs := xs) Pv h0 (fun i σ H hi h => .inl (.inl (hl i σ H hi h))) hs hd⟩
theorem s_forR1 {j : Int} (h1 : -(2 ^ 62) ≤ j) (h2 : j < 2 ^ 62) (Pv : Nat → L2.St → Hp → Prop) (h0 : Pv 0 σ H)
    (hs : ∀ i σ H, i < j.toNat → Pv i σ H → g (.int (0 + (i : Nat))) σ H fun σ2 H2 => tb { D with nx := Pv (i + 1), ct := Pv (i + 1), bk := D.nx } σ2 H2) (hd : ∀ σ H, Pv j.toNat σ H → D.nx σ H) : rForR g tb D σ [.int j] H :=
  ⟨j, rfl, h1, h2, for_range (lo := 0) (n := j.toNat) Pv h0 hs hd⟩
end
end U


set_option maxHeartbeats 4000000
namespace U
open PySem PySem.Spec PyProof.Rows L2
/-! ### assembly -/
section
variable {P : Program} {w : World} {K : PySem.W.Frag} {mg : Str → Option Value} {base : Heap} {x qual : Str} {params : Arguments} {body : List Stmt} {scope : Scope} {f C : Addr} {fd : FuncData} {N ps : List Str} {k : Nat} {sp : Sp} {t : WX → TS}
theorem ok_mk (F : FunD K x qual params body scope [] [] f fd) (S : FnScope N ps scope) (len : ∀ vs H Q E, sp vs H Q E → vs.length = ps.length)
    (hd : ∀ (cdv : Value) (A : Around) (outer : List Env) (s : Shared) (H : Hp) (E : XK) (W : WX), Room k (A.deeper (envOfC qual scope s.heap.objs.size f cdv)) →
      L2N.Takes (cxOf (L2N.CX P w) P w K mg base N qual scope f cdv A outer s H E) W → PSs (cxOf (L2N.CX P w) P w K mg base N qual scope f cdv A outer s H E) body (t W))
    (hp : ∀ vs H Q E, sp vs H Q E → t (fun cls d _ H => E cls d H) { nx := fun _ H' => Q .non H', rt := Q } (start N vs) H) : FnOk P w K mg base (L2N.CX P w) (k + 1) f fd ps sp :=
  F.ok S len fun cdv A outer s H vs Q E hr h => ⟨_, hd cdv A outer s H E _ hr (L2N.takes_of rfl rfl rfl rfl), hp vs H Q E h⟩
theorem fn_of (F : FunD K x qual params body scope [] [] f fd) (hm : mg x = some (.ref f)) (hb : ∀ (kV doc pm : Value) (an : Option Addr) (cdv ct : Value) (us : List Value), us.length = ps.length → bindArgs (PySem.W.fnOf x qual params body scope .none kV doc pm an cdv ct) ⟨us, []⟩ = pure (ps.zip us))
    (O : FnOk P w K mg base (L2N.CX P w) k f fd ps sp) : Fn P w K mg base x k sp := ⟨f, fd, ps, hm, F.kp, F.bindsN hb, O⟩
theorem met_of (F : FunD K x qual params body scope [] [] f fd) (c : Cls K C) (hm : Meth K C x f) (hf : PySem.W.fnIn K f = true) (hb : ∀ (kV doc pm : Value) (an : Option Addr) (cdv ct : Value) (us : List Value), us.length = ps.length → bindArgs (PySem.W.fnOf x qual params body scope .none kV doc pm an cdv ct) ⟨us, []⟩ = pure (ps.zip us))
    (O : FnOk P w K mg base (L2N.CX P w) k f fd ps sp) : Met P w K mg base C x k sp := ⟨f, fd, ps, c, hm, hf, F.bindsN hb, O⟩
theorem mkr_of {y : Str} (F : FunD K y qual params body scope [] [] f fd) (hm : mg x = some (.ref C)) (M : Mk K C f) (hb : ∀ (kV doc pm : Value) (an : Option Addr) (cdv ct : Value) (us : List Value), us.length = ps.length → bindArgs (PySem.W.fnOf y qual params body scope .none kV doc pm an cdv ct) ⟨us, []⟩ = pure (ps.zip us))
    (O : FnOk P w K mg base (L2N.CX P w) k f fd ps sp) : Mkr P w K mg base x C k sp := ⟨f, fd, ps, hm, M, F.bindsN hb, O⟩
/-- a def that lets nothing out -/
theorem ok_to0 (O : FnOk P w K mg base (L2N.CX P w) k f fd ps sp) (hE : ∀ vs H Q E, sp vs H Q E → sp vs H Q (fun _ _ _ => False)) : FnOk P w K mg base CX0 k f fd ps sp := by
  refine ⟨O.len, fun A outer s H args us vs Q E hr e0 hb r h => codeAny_mono (O.run A outer s H args us vs Q _ hr e0 hb r (hE _ _ _ _ h)) fun q s' z => ?_⟩
  cases q with
  | error e => exact (cx_none z).elim
  | ok fl =>
    cases fl with
    | ret u => exact z
    | next => exact False.elim z
    | brk => exact False.elim z
    | cont => exact False.elim z
/-- no promise -/
def spNo : Sp := fun _ _ _ _ => False
theorem ok_no : FnOk P w K mg base (L2N.CX P w) k f fd ps spNo := ⟨fun _ _ _ _ h => h.elim, fun _ _ _ _ _ _ _ _ _ _ _ _ _ h => h.elim⟩
end
end U


set_option maxHeartbeats 4000000
namespace L51
open PySem PySem.Spec PyProof.Rows L2 U
def sp__law_mixed (K : PySem.W.Frag) : Sp := fun vs H Q _ => ∃ a b L : Int, vs = [.int a, .int b, .int L] ∧ 0 < L ∧ ∀ r : Int, 0 ≤ r → r < L → Q (.int r) H
/-- a draw below L -/
def sp__law_draw (K : PySem.W.Frag) : Sp := fun vs H Q _ => ∃ (s l : Addr) (L : Int), vs = [.ref s, .int L] ∧ StAt H s l ∧ 0 < L ∧ L.natAbs.log2 < 9000 ∧ ∀ (r : Int) (H' : Hp), 0 ≤ r → r < L → StAt H' s l → Ext s H H' → Q (.int r) H'
theorem u_draw {K : PySem.W.Frag} {H : Hp} {s l : Addr} {L : Int} {Q : VK} {E : XK} (h : StAt H s l) (hL : 0 < L) (h2 : L.natAbs.log2 < 9000) (q : ∀ (r : Int) (H' : Hp), 0 ≤ r → r < L → StAt H' s l → Ext s H H' → Q (.int r) H') : sp__law_draw K [.ref s, .int L] H Q E := ⟨s, l, L, rfl, h, hL, h2, q⟩
def sp__law_start (K : PySem.W.Frag) : Sp := fun vs H Q _ => ∃ (a : Addr) (cells : List Int), vs = [.ref a] ∧ SqL K H a (cells.map V.int) ∧ ∀ s l H', Same H H' → H s = none → H l = none → StAt H' s l → Q (.ref s) H'
def sp__law_word (K : PySem.W.Frag) : Sp := fun vs H Q _ => ∃ s l : Addr, vs = [.ref s] ∧ StAt H s l ∧ ∀ (z : Str) (H' : Hp), StAt H' s l → Ext s H H' → Q (.str z) H'
def sp__law_value (K : PySem.W.Frag) : Sp := fun vs H Q _ => ∃ s l : Addr, vs = [.ref s] ∧ StAt H s l ∧ ∀ (i : Int) (H' : Hp), StAt H' s l → Ext s H H' → Q (.int i) H'
def sp__law_same (n : Nat) : Sp := fun vs H Q _ => ∃ x y d e, vs = [x, y] ∧ Dv H d x ∧ Dv H e y ∧ d.dep ≤ n ∧ e.dep ≤ n ∧ ∀ b : Bool, (b = true ↔ d = e) → Q (.bl b) H
/-! ### the store -/
abbrev ks_Store : List Str := ["_pairs"]
def kvOf (ps : List (Str × Int)) : List (Key × V) := ps.map fun p => (Sum.inr p.1, V.int p.2)
def putP (ps : List (Str × Int)) (k : Str) (v : Int) : List (Str × Int) := if (ps.any fun p => decide (p.1 = k)) = true then ps.map (fun p => if p.1 = k then (p.1, v) else p) else ps ++ [(k, v)]
def getP (ps : List (Str × Int)) (k : Str) : Option Int := (ps.find? fun p => decide (p.1 = k)).map (·.2)
theorem kv_get (ps : List (Str × Int)) (k : Str) : valV (kvOf ps) (Sum.inr k : Key) = (getP ps k).map V.int := by
  unfold valV kvOf getP
  induction ps with
  | nil => rfl
  | cons p r ih =>
    by_cases h : p.1 = k
    · simp [h]
    · simp only [List.map_cons, List.find?_cons, h, decide_false]
      have : ¬ (Sum.inr p.1 : Key) = Sum.inr k := fun z => h (Sum.inr.inj z)
      simp only [this, decide_false]
      exact ih
theorem kv_put (ps : List (Str × Int)) (k : Str) (v : Int) : putK (kvOf ps) (Sum.inr k : Key) (V.int v) = kvOf (putP ps k v) := by
  have e : ∀ p : Str × Int, decide ((Sum.inr p.1 : Key) = Sum.inr k) = decide (p.1 = k) := fun p => by
    by_cases h : p.1 = k
    · simp [h]
    · have : ¬ (Sum.inr p.1 : Key) = Sum.inr k := fun z => h (Sum.inr.inj z)
      simp [this, h]
  unfold putK putP kvOf
  have e1 : ((ps.map fun p => ((Sum.inr p.1 : Key), V.int p.2)).any fun kv => decide (kv.1 = (Sum.inr k : Key))) = ps.any fun p => decide (p.1 = k) := by
    rw [List.any_map]
    congr 1
    funext p
    exact e p
  rw [e1]
  split
  · rw [List.map_map, List.map_map]
    congr 1
    funext p
    by_cases h : p.1 = k
    · simp [h]
    · have : ¬ (Sum.inr p.1 : Key) = Sum.inr k := fun z => h (Sum.inr.inj z)
      simp [this, h]
  · simp
theorem putP_len (ps : List (Str × Int)) (k : Str) (v : Int) : (putP ps k v).length ≤ ps.length + 1 := by
  unfold putP
  split <;> simp
/-- the store at a, its dict at d -/
def StoreAt (K : PySem.W.Frag) (H : Hp) (a d : Addr) (ps : List (Str × Int)) : Prop := ∃ dx, H a = some (.ins (He.ga K "Store") dx (ks_Store.zip [V.ref d])) ∧ H d = some (.dK (kvOf ps))
def rowsD (ps : List (Str × Int)) : List Dat := ps.map fun p => Dat.tup [.str p.1, .int p.2]
def RowsAt (H : Hp) (r : Addr) (ps : List (Str × Int)) : Prop := ∃ xs, H r = some (.lst xs) ∧ DvL H (rowsD ps) xs
def sp_Store___init__ (K : PySem.W.Frag) : Sp := fun vs H Q _ => ∃ x dx, vs = [.ref x] ∧ H x = some (.ins (He.ga K "Store") dx []) ∧ ∀ d H', H d = none → StoreAt K H' x d [] → Ext x H H' → Q .non H'
def sp_Store___setitem__ (K : PySem.W.Frag) : Sp := fun vs H Q _ => ∃ a d k v ps, vs = [.ref a, .str k, .int v] ∧ StoreAt K H a d ps ∧ ps.length ≤ 900 ∧ ∀ H', StoreAt K H' a d (putP ps k v) → Ext d H H' → Q .non H'
def sp_Store___getitem__ (K : PySem.W.Frag) : Sp := fun vs H Q E => ∃ a d k ps, vs = [.ref a, .str k] ∧ StoreAt K H a d ps ∧ (∀ v, getP ps k = some v → Q (.int v) H) ∧ (getP ps k = none → ∀ e H', H e = none → H' e = some (.xd [("key", .str k)]) → Same H H' → E (.ref (He.ga K "NoKey")) (some e) H')
def sp_Store___contains__ (K : PySem.W.Frag) : Sp := fun vs H Q _ => ∃ a d k ps, vs = [.ref a, .str k] ∧ StoreAt K H a d ps ∧ Q (.bl (getP ps k).isSome) H
def sp_Store___len__ (K : PySem.W.Frag) : Sp := fun vs H Q _ => ∃ a dx d kvs, vs = [.ref a] ∧ H a = some (.ins (He.ga K "Store") dx (ks_Store.zip [V.ref d])) ∧ Rd H d (.dK kvs) ∧ Q (.int kvs.length) H
def sp_Store___iter__ (K : PySem.W.Frag) : Sp := fun vs H Q _ => ∃ a dx d od kvs, vs = [.ref a] ∧ H a = some (.ins (He.ga K "Store") dx (ks_Store.zip [V.ref d])) ∧ H d = some (.frz od (.dK kvs)) ∧
  ∀ it H', H it = none → Same H H' → H' it = some (IiO od d it) → (∀ b o, H' b = some o → b ≤ it) → Q (.ref it) H'
def sp_Store_rows (K : PySem.W.Frag) : Sp := fun vs H Q _ => ∃ a d ps, vs = [.ref a] ∧ StoreAt K H a d ps ∧ ∀ p H', Same H H' → H p = none → RowsAt H' p ps → Q (.ref p) H'
def sp__law_set (K : PySem.W.Frag) : Sp := fun vs H Q _ => ∃ r k v ps, vs = [.ref r, .str k, .int v] ∧ RowsAt H r ps ∧ ps.length ≤ 900 ∧ ∀ p H', Same H H' → H p = none → RowsAt H' p (putP ps k v) → Q (.ref p) H'
def sp__law_found (K : PySem.W.Frag) : Sp := fun vs H Q _ => ∃ a d k ps, vs = [.ref a, .str k] ∧ StoreAt K H a d ps ∧ ∀ p H', Same H H' → H p = none → H' p = some (.lst ((getP ps k).toList.map V.int)) → Q (.ref p) H'
def sp__law_tells (K : PySem.W.Frag) : Sp := fun vs H Q _ => ∃ a d r q ps, ∃ keys : List Str, vs = [.ref a, .ref r, .ref q] ∧ StoreAt K H a d ps ∧ RowsAt H r ps ∧ ps.length ≤ 900 ∧ (ps.map (·.1)).Nodup ∧ H q = some (.lst (keys.map V.str)) ∧ keys.length ≤ 100 ∧ ∀ H', Same H H' → Q (.bl true) H'
def sp_law (K : PySem.W.Frag) : Sp := fun vs H Q _ => ∃ (a : Addr) (cells : List Int), vs = [.ref a] ∧ SqL K H a (cells.map V.int) ∧ ∀ H', Q (.bl true) H'
end L51


set_option maxHeartbeats 4000000
namespace L51
open PySem PySem.Spec PyProof.Rows L2 U
def top (i : Nat) : Stmt := PySem.Challenge.pw_slotlag_k51_store_pairs.main.body.getD i (.Pass ⟨0, 0, 0, 0⟩)


abbrev s__law_start : Stmt := top 7
def N__law_start : List Str := ["_law_script"]
abbrev p__law_start : List Str := ["_law_script"]
theorem sc__law_start : FnScope N__law_start p__law_start (defScope s__law_start) := ⟨rfl, rfl, rfl, by decide +kernel, rfl, by decide +kernel, by decide +kernel⟩
def t__law_start (K : PySem.W.Frag) (W : WX) : TS :=
  (tRet (tLst (tCons (tCB (qListOf K) (tCons (tVar 0) tNil)) (tCons (tC (.int 0)) (tCons (tC (.int 0)) (tCons (tC (.int 0)) (tCons (tC (.int 0)) (tCons (tC (.int 0)) tNil))))))))
theorem d__law_start {P : Program} {w : World} {K : PySem.W.Frag} {mg : Str → Option Value} {base : Heap} (B : Blt mg) {f : Addr} (cdv : Value) (A : Around) (outer : List Env) (s : Shared) (H : Hp) (E : XK) (W : WX)
    (hr : Room 0 (A.deeper (envOfC "_law_start" (defScope s__law_start) s.heap.objs.size f cdv))) (tk : L2N.Takes (cxOf (L2N.CX P w) P w K mg base N__law_start "_law_start" (defScope s__law_start) f cdv A outer s H E) W) :
    PSs (cxOf (L2N.CX P w) P w K mg base N__law_start "_law_start" (defScope s__law_start) f cdv A outer s H E) (defBody s__law_start) (t__law_start K W) :=
  (pss_one (ps_ret (pe_lst (pa_cons (pe_callTy call_list_of (by rfl) B.list_ boot_list (pa_cons (pv 0) pa_nil)) (pa_cons pe_int (pa_cons pe_int (pa_cons pe_int (pa_cons pe_int (pa_cons pe_int pa_nil)))))))))

abbrev s__law_mixed : Stmt := top 8
def N__law_mixed : List Str := ["_law_cell", "_law_turn", "_law_limit", "_law_once"]
abbrev p__law_mixed : List Str := ["_law_cell", "_law_turn", "_law_limit"]
theorem sc__law_mixed : FnScope N__law_mixed p__law_mixed (defScope s__law_mixed) := ⟨rfl, rfl, rfl, by decide +kernel, rfl, by decide +kernel, by decide +kernel⟩
def t__law_mixed (K : PySem.W.Frag) (W : WX) : TS :=
  (tSeq (tAsg (tOp qModI (tCB qInt1 (tCons (tOp qAddI (tOp qAddI (tOp qMulI (tVar 0) (tC (.int 48271))) (tOp qMulI (tVar 1) (tC (.int 69621)))) (tC (.int 11))) tNil)) (tC (.int 2147483647))) (gName 3))
    (tRet (tOp qModI (tOp qModI (tCB qInt1 (tCons (tOp qAddI (tOp qAddI (tOp qMulI (tVar 3) (tC (.int 16807))) (tOp qMulI (tVar 1) (tC (.int 40692)))) (tC (.int 7))) tNil)) (tC (.int 2147483629))) (tVar 2))))
theorem d__law_mixed {P : Program} {w : World} {K : PySem.W.Frag} {mg : Str → Option Value} {base : Heap} (B : Blt mg) {f : Addr} (cdv : Value) (A : Around) (outer : List Env) (s : Shared) (H : Hp) (E : XK) (W : WX)
    (hr : Room 0 (A.deeper (envOfC "_law_mixed" (defScope s__law_mixed) s.heap.objs.size f cdv))) (tk : L2N.Takes (cxOf (L2N.CX P w) P w K mg base N__law_mixed "_law_mixed" (defScope s__law_mixed) f cdv A outer s H E) W) :
    PSs (cxOf (L2N.CX P w) P w K mg base N__law_mixed "_law_mixed" (defScope s__law_mixed) f cdv A outer s H E) (defBody s__law_mixed) (t__law_mixed K W) :=
  (pss_cons (ps_set (i := 3) sc__law_mixed.nd rfl (Or.inl rfl) (pe_op op_mod (pe_callTy call_int1 (by rfl) B.int_ boot_int (pa_cons (pe_op op_add (pe_op op_add (pe_op op_mul (pv 0) pe_int) (pe_op op_mul (pv 1) pe_int)) pe_int) pa_nil)) pe_int))
    (pss_one (ps_ret (pe_op op_mod (pe_op op_mod (pe_callTy call_int1 (by rfl) B.int_ boot_int (pa_cons (pe_op op_add (pe_op op_add (pe_op op_mul (pv 3) pe_int) (pe_op op_mul (pv 1) pe_int)) pe_int) pa_nil)) pe_int) (pv 2)))))

abbrev s__law_draw : Stmt := top 9
def N__law_draw : List Str := ["_law_state", "_law_limit", "_law_digit", "_law_cell"]
abbrev p__law_draw : List Str := ["_law_state", "_law_limit"]
theorem sc__law_draw : FnScope N__law_draw p__law_draw (defScope s__law_draw) := ⟨rfl, rfl, rfl, by decide +kernel, rfl, by decide +kernel, by decide +kernel⟩
def t__law_draw (K : PySem.W.Frag) (W : WX) : TS :=
  (tSeq (tIfS (tTest (tOp qGt (tOp (rIxL K) (tVar 0) (tC (.int 2))) (tC (.int 0)))) (tSeq (tAsg (tOp qModI (tCB qInt1 (tCons (tOp (rIxL K) (tVar 0) (tC (.int 2))) tNil)) (tVar 1)) (gName 2))
    (tSeq (tAsg (tOp qDivI (tOp (rIxL K) (tVar 0) (tC (.int 2))) (tVar 1)) (gSub (tVar 0) (tC (.int 2)) rSetL))
    (tRet (tVar 2)))) tNext)
    (tSeq (tIfS (tTest (tOp qGt (tOp (rIxL K) (tVar 0) (tC (.int 4))) (tC (.int 0)))) (tSeq (tAsg (tOp qSubI (tOp (rIxL K) (tVar 0) (tC (.int 4))) (tC (.int 1))) (gSub (tVar 0) (tC (.int 4)) rSetL))
    (tSeq (tAsg (tOp qAddI (tOp (rIxL K) (tVar 0) (tC (.int 5))) (tC (.int 1))) (gSub (tVar 0) (tC (.int 5)) rSetL))
    (tRet (tCallS (sp__law_mixed K) (WE W) (tCons (tOp (rIxL K) (tVar 0) (tC (.int 3))) (tCons (tOp (rIxL K) (tVar 0) (tC (.int 5))) (tCons (tVar 1) tNil))))))) tNext)
    (tSeq (tIfS (tTest (tOp qGe (tOp (rIxL K) (tVar 0) (tC (.int 1))) (tCB (qLen K) (tCons (tOp (rIxL K) (tVar 0) (tC (.int 0))) tNil)))) (tRet (tC (.int 0))) tNext)
    (tSeq (tAsg (tOp (rIxL K) (tOp (rIxL K) (tVar 0) (tC (.int 0))) (tOp (rIxL K) (tVar 0) (tC (.int 1)))) (gName 3))
    (tSeq (tAsg (tOp qAddI (tOp (rIxL K) (tVar 0) (tC (.int 1))) (tC (.int 1))) (gSub (tVar 0) (tC (.int 1)) rSetL))
    (tSeq (tIfS (tTest (tOp qGe (tVar 3) (tOp qPowI (tC (.int 10)) (tC (.int 18))))) (tSeq (tAsg (tOp qDivI (tVar 3) (tVar 1)) (gSub (tVar 0) (tC (.int 2)) rSetL))
    (tRet (tOp qModI (tCB qInt1 (tCons (tVar 3) tNil)) (tVar 1)))) tNext)
    (tSeq (tAsg (tVar 3) (gSub (tVar 0) (tC (.int 3)) rSetL))
    (tSeq (tAsg (tC (.int 3)) (gSub (tVar 0) (tC (.int 4)) rSetL))
    (tSeq (tAsg (tOp qAddI (tOp (rIxL K) (tVar 0) (tC (.int 5))) (tC (.int 1))) (gSub (tVar 0) (tC (.int 5)) rSetL))
    (tRet (tCallS (sp__law_mixed K) (WE W) (tCons (tVar 3) (tCons (tOp (rIxL K) (tVar 0) (tC (.int 5))) (tCons (tVar 1) tNil))))))))))))))
theorem d__law_draw {P : Program} {w : World} {K : PySem.W.Frag} {mg : Str → Option Value} {base : Heap} (B : Blt mg) (F__law_mixed : Fn P w K mg base "_law_mixed" 1 (sp__law_mixed K)) {f : Addr} (cdv : Value) (A : Around) (outer : List Env) (s : Shared) (H : Hp) (E : XK) (W : WX)
    (hr : Room 1 (A.deeper (envOfC "_law_draw" (defScope s__law_draw) s.heap.objs.size f cdv))) (tk : L2N.Takes (cxOf (L2N.CX P w) P w K mg base N__law_draw "_law_draw" (defScope s__law_draw) f cdv A outer s H E) W) :
    PSs (cxOf (L2N.CX P w) P w K mg base N__law_draw "_law_draw" (defScope s__law_draw) f cdv A outer s H E) (defBody s__law_draw) (t__law_draw K W) :=
  (pss_cons (ps_if (pt_cmpR op_gt (pe_ix ix_list (pv 0) pe_int (fun _ _ => rfl)) pe_int (nomark _)) (pss_cons (ps_set (i := 2) sc__law_draw.nd rfl (Or.inl rfl) (pe_op op_mod (pe_callTy call_int1 (by rfl) B.int_ boot_int (pa_cons (pe_ix ix_list (pv 0) pe_int (fun _ _ => rfl)) pa_nil)) (pv 1)))
    (pss_cons (ps_asg (pe_op op_fdivW (pe_ix ix_list (pv 0) pe_int (fun _ _ => rfl)) (pv 1)) (pg_sub (pv 0) pe_int set_list))
    (pss_one (ps_ret (pv 2))))) pss_nil)
    (pss_cons (ps_if (pt_cmpR op_gt (pe_ix ix_list (pv 0) pe_int (fun _ _ => rfl)) pe_int (nomark _)) (pss_cons (ps_asg (pe_op op_sub (pe_ix ix_list (pv 0) pe_int (fun _ _ => rfl)) pe_int) (pg_sub (pv 0) pe_int set_list))
    (pss_cons (ps_asg (pe_op op_add (pe_ix ix_list (pv 0) pe_int (fun _ _ => rfl)) pe_int) (pg_sub (pv 0) pe_int set_list))
    (pss_one (ps_ret (pe_fn F__law_mixed (hr.mono (by decide)) tk (pa_cons (pe_ix ix_list (pv 0) pe_int (fun _ _ => rfl)) (pa_cons (pe_ix ix_list (pv 0) pe_int (fun _ _ => rfl)) (pa_cons (pv 1) pa_nil)))))))) pss_nil)
    (pss_cons (ps_if (pt_cmpR op_ge (pe_ix ix_list (pv 0) pe_int (fun _ _ => rfl)) (pe_callB call_len (by rfl) B.len_ boot_len (pa_cons (pe_ix ix_list (pv 0) pe_int (fun _ _ => rfl)) pa_nil)) (nomark _)) (pss_one (ps_ret pe_int)) pss_nil)
    (pss_cons (ps_set (i := 3) sc__law_draw.nd rfl (Or.inl rfl) (pe_ix ix_list (pe_ix ix_list (pv 0) pe_int (fun _ _ => rfl)) (pe_ix ix_list (pv 0) pe_int (fun _ _ => rfl)) (fun _ _ => rfl)))
    (pss_cons (ps_asg (pe_op op_add (pe_ix ix_list (pv 0) pe_int (fun _ _ => rfl)) pe_int) (pg_sub (pv 0) pe_int set_list))
    (pss_cons (ps_if (pt_cmpR op_ge (pv 3) (pe_op op_pow pe_int pe_int) (nomark _)) (pss_cons (ps_asg (pe_op op_fdivW (pv 3) (pv 1)) (pg_sub (pv 0) pe_int set_list))
    (pss_one (ps_ret (pe_op op_mod (pe_callTy call_int1 (by rfl) B.int_ boot_int (pa_cons (pv 3) pa_nil)) (pv 1))))) pss_nil)
    (pss_cons (ps_asg (pv 3) (pg_sub (pv 0) pe_int set_list))
    (pss_cons (ps_asg pe_int (pg_sub (pv 0) pe_int set_list))
    (pss_cons (ps_asg (pe_op op_add (pe_ix ix_list (pv 0) pe_int (fun _ _ => rfl)) pe_int) (pg_sub (pv 0) pe_int set_list))
    (pss_one (ps_ret (pe_fn F__law_mixed (hr.mono (by decide)) tk (pa_cons (pv 3) (pa_cons (pe_ix ix_list (pv 0) pe_int (fun _ _ => rfl)) (pa_cons (pv 1) pa_nil)))))))))))))))

abbrev s__law_word : Stmt := top 10
def N__law_word : List Str := ["_law_state", "_law_letters", "_law_many", "_law_alike", "_law_sign", "_law_spot", "_law_word_here", "_law_k"]
abbrev p__law_word : List Str := ["_law_state"]
theorem sc__law_word : FnScope N__law_word p__law_word (defScope s__law_word) := ⟨rfl, rfl, rfl, by decide +kernel, rfl, by decide +kernel, by decide +kernel⟩
def t__law_word (K : PySem.W.Frag) (W : WX) : TS :=
  (tSeq (tAsg (tC (.str "abcdefghijklmnopqrstuvwxyz")) (gName 1))
    (tSeq (tAsg (tOp qAddI (tC (.int 1)) (tCallS (sp__law_draw K) (WE W) (tCons (tVar 0) (tCons (tC (.int 8)) tNil)))) (gName 2))
    (tSeq (tAsg (tCallS (sp__law_draw K) (WE W) (tCons (tVar 0) (tCons (tC (.int 2)) tNil))) (gName 3))
    (tSeq (tAsg (tOp rIxS (tVar 1) (tCallS (sp__law_draw K) (WE W) (tCons (tVar 0) (tCons (tC (.int 26)) tNil)))) (gName 4))
    (tSeq (tAsg (tCallS (sp__law_draw K) (WE W) (tCons (tVar 0) (tCons (tVar 2) tNil))) (gName 5))
    (tSeq (tAsg (tC (.str "")) (gName 6))
    (tSeq (tFor (iRng1 (tCons (tVar 2) tNil)) (gName 7) (tIfS (tOr (tTest (tOp rEq (tVar 3) (tC (.int 0)))) (tTest (tOp rEq (tVar 7) (tVar 5)))) (tAsg (tOp qAddS (tVar 6) (tOp rIxS (tVar 1) (tCallS (sp__law_draw K) (WE W) (tCons (tVar 0) (tCons (tC (.int 26)) tNil))))) (gName 6)) (tAsg (tOp qAddS (tVar 6) (tVar 4)) (gName 6))))
    (tRet (tVar 6)))))))))
theorem d__law_word {P : Program} {w : World} {K : PySem.W.Frag} {mg : Str → Option Value} {base : Heap} (B : Blt mg) (F__law_draw : Fn P w K mg base "_law_draw" 2 (sp__law_draw K)) {f : Addr} (cdv : Value) (A : Around) (outer : List Env) (s : Shared) (H : Hp) (E : XK) (W : WX)
    (hr : Room 2 (A.deeper (envOfC "_law_word" (defScope s__law_word) s.heap.objs.size f cdv))) (tk : L2N.Takes (cxOf (L2N.CX P w) P w K mg base N__law_word "_law_word" (defScope s__law_word) f cdv A outer s H E) W) :
    PSs (cxOf (L2N.CX P w) P w K mg base N__law_word "_law_word" (defScope s__law_word) f cdv A outer s H E) (defBody s__law_word) (t__law_word K W) :=
  (pss_cons (ps_set (i := 1) sc__law_word.nd rfl (Or.inl rfl) pe_str)
    (pss_cons (ps_set (i := 2) sc__law_word.nd rfl (Or.inl rfl) (pe_op op_add pe_int (pe_fn F__law_draw (hr.mono (by decide)) tk (pa_cons (pv 0) (pa_cons pe_int pa_nil)))))
    (pss_cons (ps_set (i := 3) sc__law_word.nd rfl (Or.inl rfl) (pe_fn F__law_draw (hr.mono (by decide)) tk (pa_cons (pv 0) (pa_cons pe_int pa_nil))))
    (pss_cons (ps_set (i := 4) sc__law_word.nd rfl (Or.inl rfl) (pe_ix ix_str (pv 1) (pe_fn F__law_draw (hr.mono (by decide)) tk (pa_cons (pv 0) (pa_cons pe_int pa_nil))) (fun _ _ => rfl)))
    (pss_cons (ps_set (i := 5) sc__law_word.nd rfl (Or.inl rfl) (pe_fn F__law_draw (hr.mono (by decide)) tk (pa_cons (pv 0) (pa_cons (pv 2) pa_nil))))
    (pss_cons (ps_set (i := 6) sc__law_word.nd rfl (Or.inl rfl) pe_str)
    (pss_cons (ps_for (L2.passes_of rfl) rfl (pi_range1 (by rfl) B.range_ (pa_cons (pv 2) pa_nil)) (pg_name (i := 7) sc__law_word.nd rfl (Or.inl rfl)) (pss_one (ps_if (PW.pt (pw_or (pt_cmpR op_eq (pv 3) pe_int (nomark _)) (pw_or1 (pt_cmpR op_eq (pv 7) (pv 5) (nomark _))))) (pss_one (ps_set (i := 6) sc__law_word.nd rfl (Or.inl rfl) (pe_op op_add_str (pv 6) (pe_ix ix_str (pv 1) (pe_fn F__law_draw (hr.mono (by decide)) tk (pa_cons (pv 0) (pa_cons pe_int pa_nil))) (fun _ _ => rfl))))) (pss_one (ps_set (i := 6) sc__law_word.nd rfl (Or.inl rfl) (pe_op op_add_str (pv 6) (pv 4)))))))
    (pss_one (ps_ret (pv 6))))))))))

abbrev s__law_value : Stmt := top 11
def N__law_value : List Str := ["_law_state", "_law_pick"]
abbrev p__law_value : List Str := ["_law_state"]
theorem sc__law_value : FnScope N__law_value p__law_value (defScope s__law_value) := ⟨rfl, rfl, rfl, by decide +kernel, rfl, by decide +kernel, by decide +kernel⟩
def t__law_value (K : PySem.W.Frag) (W : WX) : TS :=
  (tSeq (tAsg (tCallS (sp__law_draw K) (WE W) (tCons (tVar 0) (tCons (tC (.int 4)) tNil))) (gName 1))
    (tSeq (tIfS (tTest (tOp rEq (tVar 1) (tC (.int 0)))) (tRet (tOp qSubI (tCallS (sp__law_draw K) (WE W) (tCons (tVar 0) (tCons (tC (.int 101)) tNil))) (tC (.int 50)))) tNext)
    (tSeq (tIfS (tTest (tOp rEq (tVar 1) (tC (.int 1)))) (tRet (tOp qSubI (tOp qSubI (tOp qPowI (tC (.int 10)) (tC (.int 40))) (tC (.int 1))) (tCallS (sp__law_draw K) (WE W) (tCons (tVar 0) (tCons (tC (.int 3)) tNil))))) tNext)
    (tSeq (tIfS (tTest (tOp rEq (tVar 1) (tC (.int 2)))) (tRet (tOp qSubI (tC (.int 0)) (tOp qSubI (tOp qSubI (tOp qPowI (tC (.int 10)) (tC (.int 40))) (tC (.int 1))) (tCallS (sp__law_draw K) (WE W) (tCons (tVar 0) (tCons (tC (.int 3)) tNil)))))) tNext)
    (tRet (tOp qSubI (tCallS (sp__law_draw K) (WE W) (tCons (tVar 0) (tCons (tOp qPowI (tC (.int 10)) (tC (.int 9))) tNil))) (tOp qMulI (tC (.int 5)) (tOp qPowI (tC (.int 10)) (tC (.int 8))))))))))
theorem d__law_value {P : Program} {w : World} {K : PySem.W.Frag} {mg : Str → Option Value} {base : Heap} (B : Blt mg) (F__law_draw : Fn P w K mg base "_law_draw" 2 (sp__law_draw K)) {f : Addr} (cdv : Value) (A : Around) (outer : List Env) (s : Shared) (H : Hp) (E : XK) (W : WX)
    (hr : Room 2 (A.deeper (envOfC "_law_value" (defScope s__law_value) s.heap.objs.size f cdv))) (tk : L2N.Takes (cxOf (L2N.CX P w) P w K mg base N__law_value "_law_value" (defScope s__law_value) f cdv A outer s H E) W) :
    PSs (cxOf (L2N.CX P w) P w K mg base N__law_value "_law_value" (defScope s__law_value) f cdv A outer s H E) (defBody s__law_value) (t__law_value K W) :=
  (pss_cons (ps_set (i := 1) sc__law_value.nd rfl (Or.inl rfl) (pe_fn F__law_draw (hr.mono (by decide)) tk (pa_cons (pv 0) (pa_cons pe_int pa_nil))))
    (pss_cons (ps_if (pt_cmpR op_eq (pv 1) pe_int (nomark _)) (pss_one (ps_ret (pe_op op_sub (pe_fn F__law_draw (hr.mono (by decide)) tk (pa_cons (pv 0) (pa_cons pe_int pa_nil))) pe_int))) pss_nil)
    (pss_cons (ps_if (pt_cmpR op_eq (pv 1) pe_int (nomark _)) (pss_one (ps_ret (pe_op op_sub (pe_op op_sub (pe_op op_pow pe_int pe_int) pe_int) (pe_fn F__law_draw (hr.mono (by decide)) tk (pa_cons (pv 0) (pa_cons pe_int pa_nil)))))) pss_nil)
    (pss_cons (ps_if (pt_cmpR op_eq (pv 1) pe_int (nomark _)) (pss_one (ps_ret (pe_op op_sub pe_int (pe_op op_sub (pe_op op_sub (pe_op op_pow pe_int pe_int) pe_int) (pe_fn F__law_draw (hr.mono (by decide)) tk (pa_cons (pv 0) (pa_cons pe_int pa_nil))))))) pss_nil)
    (pss_one (ps_ret (pe_op op_sub (pe_fn F__law_draw (hr.mono (by decide)) tk (pa_cons (pv 0) (pa_cons (pe_op op_pow pe_int pe_int) pa_nil))) (pe_op op_mul pe_int (pe_op op_pow pe_int pe_int)))))))))

abbrev s__law_same : Stmt := top 6
def N__law_same : List Str := ["_law_here", "_law_there", "_law_key", "_law_k"]
abbrev p__law_same : List Str := ["_law_here", "_law_there"]
theorem sc__law_same : FnScope N__law_same p__law_same (defScope s__law_same) := ⟨rfl, rfl, rfl, by decide +kernel, rfl, by decide +kernel, by decide +kernel⟩
def t__law_same (K : PySem.W.Frag) (W : WX) (sr : Sp) : TS :=
  (tSeq (tIfS (tOr (tTest (tOp qIsN (tVar 0) (tC .non))) (tTest (tOp qIsN (tVar 1) (tC .non)))) (tRet (tAndV (tOp qIsN (tVar 0) (tC .non)) (tOp qIsN (tVar 1) (tC .non)))) tNext)
    (tSeq (tIfS (tOr (tB (tCB (rIsT "bool") (tCons (tVar 0) (tCons (tC (.ty "bool")) tNil)))) (tB (tCB (rIsT "bool") (tCons (tVar 1) (tCons (tC (.ty "bool")) tNil))))) (tRet (tAndV (tCB (rIsT "bool") (tCons (tVar 0) (tCons (tC (.ty "bool")) tNil))) (tAndV (tCB (rIsT "bool") (tCons (tVar 1) (tCons (tC (.ty "bool")) tNil))) (tOp rEq (tVar 0) (tVar 1))))) tNext)
    (tSeq (tIfS (tOr (tB (tCB (rIsT "int") (tCons (tVar 0) (tCons (tC (.ty "int")) tNil)))) (tB (tCB (rIsT "int") (tCons (tVar 1) (tCons (tC (.ty "int")) tNil))))) (tRet (tAndV (tCB (rIsT "int") (tCons (tVar 0) (tCons (tC (.ty "int")) tNil))) (tAndV (tCB (rIsT "int") (tCons (tVar 1) (tCons (tC (.ty "int")) tNil))) (tOp rEq (tVar 0) (tVar 1))))) tNext)
    (tSeq (tIfS (tOr (tB (tCB (rIsT "str") (tCons (tVar 0) (tCons (tC (.ty "str")) tNil)))) (tB (tCB (rIsT "str") (tCons (tVar 1) (tCons (tC (.ty "str")) tNil))))) (tRet (tAndV (tCB (rIsT "str") (tCons (tVar 0) (tCons (tC (.ty "str")) tNil))) (tAndV (tCB (rIsT "str") (tCons (tVar 1) (tCons (tC (.ty "str")) tNil))) (tOp rEq (tVar 0) (tVar 1))))) tNext)
    (tSeq (tIfS (tAnd (tB (tCB (rIsT "dict") (tCons (tVar 0) (tCons (tC (.ty "dict")) tNil)))) (tB (tCB (rIsT "dict") (tCons (tVar 1) (tCons (tC (.ty "dict")) tNil))))) (tSeq sNv
    sNv) tNext)
    (tSeq (tIfS (tOr (tTest (tOp rNe (tCB (rIsT "tuple") (tCons (tVar 0) (tCons (tC (.ty "tuple")) tNil))) (tCB (rIsT "tuple") (tCons (tVar 1) (tCons (tC (.ty "tuple")) tNil))))) (tTest (tOp rNe (tCB (rIsT "list") (tCons (tVar 0) (tCons (tC (.ty "list")) tNil))) (tCB (rIsT "list") (tCons (tVar 1) (tCons (tC (.ty "list")) tNil)))))) (tRet (tC (.bl false))) tNext)
    (tSeq (tIfS (tAnd (tNot (tB (tCB (rIsT "tuple") (tCons (tVar 0) (tCons (tC (.ty "tuple")) tNil))))) (tNot (tB (tCB (rIsT "list") (tCons (tVar 0) (tCons (tC (.ty "list")) tNil)))))) (tRet (tC (.bl false))) tNext)
    (tSeq (tIfS (tTest (tOp rNe (tCB (qLen K) (tCons (tVar 0) tNil)) (tCB (qLen K) (tCons (tVar 1) tNil)))) (tRet (tC (.bl false))) tNext)
    (tSeq (tFor (iRng1 (tCons (tCB (qLen K) (tCons (tVar 0) tNil)) tNil)) (gName 3) (tIfS (tNot (tB (tCallS sr (WE W) (tCons (tOp (rIxLT K) (tVar 0) (tVar 3)) (tCons (tOp (rIxLT K) (tVar 1) (tVar 3)) tNil))))) (tRet (tC (.bl false))) tNext))
    (tRet (tC (.bl true))))))))))))
theorem d__law_same {P : Program} {w : World} {K : PySem.W.Frag} {mg : Str → Option Value} {base : Heap} (B : Blt mg) {k : Nat} {sr : Sp} (F_rec : Fn P w K mg base "_law_same" k sr) {f : Addr} (cdv : Value) (A : Around) (outer : List Env) (s : Shared) (H : Hp) (E : XK) (W : WX)
    (hr : Room k (A.deeper (envOfC "_law_same" (defScope s__law_same) s.heap.objs.size f cdv))) (tk : L2N.Takes (cxOf (L2N.CX P w) P w K mg base N__law_same "_law_same" (defScope s__law_same) f cdv A outer s H E) W) :
    PSs (cxOf (L2N.CX P w) P w K mg base N__law_same "_law_same" (defScope s__law_same) f cdv A outer s H E) (defBody s__law_same) (t__law_same K W sr) :=
  (pss_cons (ps_if (PW.pt (pw_or (pt_cmpR op_isN (pv 0) pe_non (nomark _)) (pw_or1 (pt_cmpR op_isN (pv 1) pe_non (nomark _))))) (pss_one (ps_ret (pe_and (pe_cmpR op_isN (pv 0) pe_non (nomark _)) (pe_one (pe_cmpR op_isN (pv 1) pe_non (nomark _)))))) pss_nil)
    (pss_cons (ps_if (PW.pt (pw_or (pt_val (pe_callB (call_isT (T := "bool") (by decide +kernel)) (by rfl) B.isinstance_ (by decide +kernel) (pa_cons (pv 0) (pa_cons (pe_bltn rfl B.bool_ (by decide +kernel) rfl) pa_nil))) (by intro _; rfl)) (pw_or1 (pt_val (pe_callB (call_isT (T := "bool") (by decide +kernel)) (by rfl) B.isinstance_ (by decide +kernel) (pa_cons (pv 1) (pa_cons (pe_bltn rfl B.bool_ (by decide +kernel) rfl) pa_nil))) (by intro _; rfl))))) (pss_one (ps_ret (pe_and (pe_callB (call_isT (T := "bool") (by decide +kernel)) (by rfl) B.isinstance_ (by decide +kernel) (pa_cons (pv 0) (pa_cons (pe_bltn rfl B.bool_ (by decide +kernel) rfl) pa_nil))) (pe_and (pe_callB (call_isT (T := "bool") (by decide +kernel)) (by rfl) B.isinstance_ (by decide +kernel) (pa_cons (pv 1) (pa_cons (pe_bltn rfl B.bool_ (by decide +kernel) rfl) pa_nil))) (pe_one (pe_cmpR op_eq (pv 0) (pv 1) (nomark _))))))) pss_nil)
    (pss_cons (ps_if (PW.pt (pw_or (pt_val (pe_callB (call_isT (T := "int") (by decide +kernel)) (by rfl) B.isinstance_ (by decide +kernel) (pa_cons (pv 0) (pa_cons (pe_bltn rfl B.int_ (by decide +kernel) rfl) pa_nil))) (by intro _; rfl)) (pw_or1 (pt_val (pe_callB (call_isT (T := "int") (by decide +kernel)) (by rfl) B.isinstance_ (by decide +kernel) (pa_cons (pv 1) (pa_cons (pe_bltn rfl B.int_ (by decide +kernel) rfl) pa_nil))) (by intro _; rfl))))) (pss_one (ps_ret (pe_and (pe_callB (call_isT (T := "int") (by decide +kernel)) (by rfl) B.isinstance_ (by decide +kernel) (pa_cons (pv 0) (pa_cons (pe_bltn rfl B.int_ (by decide +kernel) rfl) pa_nil))) (pe_and (pe_callB (call_isT (T := "int") (by decide +kernel)) (by rfl) B.isinstance_ (by decide +kernel) (pa_cons (pv 1) (pa_cons (pe_bltn rfl B.int_ (by decide +kernel) rfl) pa_nil))) (pe_one (pe_cmpR op_eq (pv 0) (pv 1) (nomark _))))))) pss_nil)
    (pss_cons (ps_if (PW.pt (pw_or (pt_val (pe_callB (call_isT (T := "str") (by decide +kernel)) (by rfl) B.isinstance_ (by decide +kernel) (pa_cons (pv 0) (pa_cons (pe_bltn rfl B.str_ (by decide +kernel) rfl) pa_nil))) (by intro _; rfl)) (pw_or1 (pt_val (pe_callB (call_isT (T := "str") (by decide +kernel)) (by rfl) B.isinstance_ (by decide +kernel) (pa_cons (pv 1) (pa_cons (pe_bltn rfl B.str_ (by decide +kernel) rfl) pa_nil))) (by intro _; rfl))))) (pss_one (ps_ret (pe_and (pe_callB (call_isT (T := "str") (by decide +kernel)) (by rfl) B.isinstance_ (by decide +kernel) (pa_cons (pv 0) (pa_cons (pe_bltn rfl B.str_ (by decide +kernel) rfl) pa_nil))) (pe_and (pe_callB (call_isT (T := "str") (by decide +kernel)) (by rfl) B.isinstance_ (by decide +kernel) (pa_cons (pv 1) (pa_cons (pe_bltn rfl B.str_ (by decide +kernel) rfl) pa_nil))) (pe_one (pe_cmpR op_eq (pv 0) (pv 1) (nomark _))))))) pss_nil)
    (pss_cons (ps_if (PW.pt (pw_and (pt_val (pe_callB (call_isT (T := "dict") (by decide +kernel)) (by rfl) B.isinstance_ (by decide +kernel) (pa_cons (pv 0) (pa_cons (pe_bltn rfl B.dict_ (by decide +kernel) rfl) pa_nil))) (by intro _; rfl)) (pw_and1 (pt_val (pe_callB (call_isT (T := "dict") (by decide +kernel)) (by rfl) B.isinstance_ (by decide +kernel) (pa_cons (pv 1) (pa_cons (pe_bltn rfl B.dict_ (by decide +kernel) rfl) pa_nil))) (by intro _; rfl))))) (pss_cons ps_nv
    (pss_one ps_nv)) pss_nil)
    (pss_cons (ps_if (PW.pt (pw_or (pt_cmpR op_ne (pe_callB (call_isT (T := "tuple") (by decide +kernel)) (by rfl) B.isinstance_ (by decide +kernel) (pa_cons (pv 0) (pa_cons (pe_bltn rfl B.tuple_ (by decide +kernel) rfl) pa_nil))) (pe_callB (call_isT (T := "tuple") (by decide +kernel)) (by rfl) B.isinstance_ (by decide +kernel) (pa_cons (pv 1) (pa_cons (pe_bltn rfl B.tuple_ (by decide +kernel) rfl) pa_nil))) (nomark _)) (pw_or1 (pt_cmpR op_ne (pe_callB (call_isT (T := "list") (by decide +kernel)) (by rfl) B.isinstance_ (by decide +kernel) (pa_cons (pv 0) (pa_cons (pe_bltn rfl B.list_ (by decide +kernel) rfl) pa_nil))) (pe_callB (call_isT (T := "list") (by decide +kernel)) (by rfl) B.isinstance_ (by decide +kernel) (pa_cons (pv 1) (pa_cons (pe_bltn rfl B.list_ (by decide +kernel) rfl) pa_nil))) (nomark _))))) (pss_one (ps_ret pe_bl)) pss_nil)
    (pss_cons (ps_if (PW.pt (pw_and (pt_not (pt_val (pe_callB (call_isT (T := "tuple") (by decide +kernel)) (by rfl) B.isinstance_ (by decide +kernel) (pa_cons (pv 0) (pa_cons (pe_bltn rfl B.tuple_ (by decide +kernel) rfl) pa_nil))) (by intro _; rfl))) (pw_and1 (pt_not (pt_val (pe_callB (call_isT (T := "list") (by decide +kernel)) (by rfl) B.isinstance_ (by decide +kernel) (pa_cons (pv 0) (pa_cons (pe_bltn rfl B.list_ (by decide +kernel) rfl) pa_nil))) (by intro _; rfl)))))) (pss_one (ps_ret pe_bl)) pss_nil)
    (pss_cons (ps_if (pt_cmpR op_ne (pe_callB call_len (by rfl) B.len_ boot_len (pa_cons (pv 0) pa_nil)) (pe_callB call_len (by rfl) B.len_ boot_len (pa_cons (pv 1) pa_nil)) (nomark _)) (pss_one (ps_ret pe_bl)) pss_nil)
    (pss_cons (ps_for (L2.passes_of rfl) rfl (pi_range1 (by rfl) B.range_ (pa_cons (pe_callB call_len (by rfl) B.len_ boot_len (pa_cons (pv 0) pa_nil)) pa_nil)) (pg_name (i := 3) sc__law_same.nd rfl (Or.inl rfl)) (pss_one (ps_if (pt_not (pt_val (pe_fn F_rec hr tk (pa_cons (pe_ix ix_lt (pv 0) (pv 3) (fun _ _ => rfl)) (pa_cons (pe_ix ix_lt (pv 1) (pv 3) (fun _ _ => rfl)) pa_nil))) (by intro _; rfl))) (pss_one (ps_ret pe_bl)) pss_nil)))
    (pss_one (ps_ret pe_bl)))))))))))

def tT__law_same (K : PySem.W.Frag) (W : WX) : TS :=
  (tSeq (tIfS (tOr (tTest (tOp qIsN (tVar 0) (tC .non))) (tTest (tOp qIsN (tVar 1) (tC .non)))) (tRet (tAndV (tOp qIsN (tVar 0) (tC .non)) (tOp qIsN (tVar 1) (tC .non)))) tNext)
    (tSeq (tIfS (tOr (tB (tCB (rIsT "bool") (tCons (tVar 0) (tCons (tC (.ty "bool")) tNil)))) (tB (tCB (rIsT "bool") (tCons (tVar 1) (tCons (tC (.ty "bool")) tNil))))) (tRet (tAndV (tCB (rIsT "bool") (tCons (tVar 0) (tCons (tC (.ty "bool")) tNil))) (tAndV (tCB (rIsT "bool") (tCons (tVar 1) (tCons (tC (.ty "bool")) tNil))) (tOp rEq (tVar 0) (tVar 1))))) tNext)
    (tSeq (tIfS (tOr (tB (tCB (rIsT "int") (tCons (tVar 0) (tCons (tC (.ty "int")) tNil)))) (tB (tCB (rIsT "int") (tCons (tVar 1) (tCons (tC (.ty "int")) tNil))))) (tRet (tAndV (tCB (rIsT "int") (tCons (tVar 0) (tCons (tC (.ty "int")) tNil))) (tAndV (tCB (rIsT "int") (tCons (tVar 1) (tCons (tC (.ty "int")) tNil))) (tOp rEq (tVar 0) (tVar 1))))) tNext)
    (tSeq (tIfS (tOr (tB (tCB (rIsT "str") (tCons (tVar 0) (tCons (tC (.ty "str")) tNil)))) (tB (tCB (rIsT "str") (tCons (tVar 1) (tCons (tC (.ty "str")) tNil))))) (tRet (tAndV (tCB (rIsT "str") (tCons (tVar 0) (tCons (tC (.ty "str")) tNil))) (tAndV (tCB (rIsT "str") (tCons (tVar 1) (tCons (tC (.ty "str")) tNil))) (tOp rEq (tVar 0) (tVar 1))))) tNext)
    (tSeq (tIfS (tAnd (tB (tCB (rIsT "dict") (tCons (tVar 0) (tCons (tC (.ty "dict")) tNil)))) (tB (tCB (rIsT "dict") (tCons (tVar 1) (tCons (tC (.ty "dict")) tNil))))) (tSeq sNv
    sNv) tNext)
    (tSeq (tIfS (tOr (tTest (tOp rNe (tCB (rIsT "tuple") (tCons (tVar 0) (tCons (tC (.ty "tuple")) tNil))) (tCB (rIsT "tuple") (tCons (tVar 1) (tCons (tC (.ty "tuple")) tNil))))) (tTest (tOp rNe (tCB (rIsT "list") (tCons (tVar 0) (tCons (tC (.ty "list")) tNil))) (tCB (rIsT "list") (tCons (tVar 1) (tCons (tC (.ty "list")) tNil)))))) (tRet (tC (.bl false))) tNext)
    (tSeq (tIfS (tAnd (tNot (tB (tCB (rIsT "tuple") (tCons (tVar 0) (tCons (tC (.ty "tuple")) tNil))))) (tNot (tB (tCB (rIsT "list") (tCons (tVar 0) (tCons (tC (.ty "list")) tNil)))))) (tRet (tC (.bl false))) tNext)
    (tSeq (tIfS (tTest (tOp rNe (tCB (qLen K) (tCons (tVar 0) tNil)) (tCB (qLen K) (tCons (tVar 1) tNil)))) (tRet (tC (.bl false))) tNext)
    (tSeq sNv
    (tRet (tC (.bl true))))))))))))
theorem dT__law_same {P : Program} {w : World} {K : PySem.W.Frag} {mg : Str → Option Value} {base : Heap} (B : Blt mg) {f : Addr} (cdv : Value) (A : Around) (outer : List Env) (s : Shared) (H : Hp) (E : XK) (p : Addr × Obj) (hot : L2H.Hot1 A p)
    (hr : L2H.RoomH 0 (A.deeper (envOfC "_law_same" (defScope s__law_same) s.heap.objs.size f cdv))) :
    PSs (L2H.cxH (L2N.CX P w) P w K mg base N__law_same "_law_same" (defScope s__law_same) f cdv A outer s H E p) (defBody s__law_same) (tT__law_same K fun _ _ _ _ => False) :=
  have hc : L2H.HotC (L2H.cxH (L2N.CX P w) P w K mg base N__law_same "_law_same" (defScope s__law_same) f cdv A outer s H E p) := ⟨p, hot, List.mem_cons_self⟩
  (pss_cons (ps_if (PW.pt (pw_or (pt_cmpR op_isN (pv 0) pe_non (nomark _)) (pw_or1 (pt_cmpR op_isN (pv 1) pe_non (nomark _))))) (pss_one (ps_ret (pe_and (pe_cmpR op_isN (pv 0) pe_non (nomark _)) (pe_one (pe_cmpR op_isN (pv 1) pe_non (nomark _)))))) pss_nil)
    (pss_cons (ps_if (PW.pt (pw_or (pt_val (pe_callB (call_isT (T := "bool") (by decide +kernel)) (by rfl) B.isinstance_ (by decide +kernel) (pa_cons (pv 0) (pa_cons (pe_bltn rfl B.bool_ (by decide +kernel) rfl) pa_nil))) (by intro _; rfl)) (pw_or1 (pt_val (pe_callB (call_isT (T := "bool") (by decide +kernel)) (by rfl) B.isinstance_ (by decide +kernel) (pa_cons (pv 1) (pa_cons (pe_bltn rfl B.bool_ (by decide +kernel) rfl) pa_nil))) (by intro _; rfl))))) (pss_one (ps_ret (pe_and (pe_callB (call_isT (T := "bool") (by decide +kernel)) (by rfl) B.isinstance_ (by decide +kernel) (pa_cons (pv 0) (pa_cons (pe_bltn rfl B.bool_ (by decide +kernel) rfl) pa_nil))) (pe_and (pe_callB (call_isT (T := "bool") (by decide +kernel)) (by rfl) B.isinstance_ (by decide +kernel) (pa_cons (pv 1) (pa_cons (pe_bltn rfl B.bool_ (by decide +kernel) rfl) pa_nil))) (pe_one (pe_cmpR op_eq (pv 0) (pv 1) (nomark _))))))) pss_nil)
    (pss_cons (ps_if (PW.pt (pw_or (pt_val (pe_callB (call_isT (T := "int") (by decide +kernel)) (by rfl) B.isinstance_ (by decide +kernel) (pa_cons (pv 0) (pa_cons (pe_bltn rfl B.int_ (by decide +kernel) rfl) pa_nil))) (by intro _; rfl)) (pw_or1 (pt_val (pe_callB (call_isT (T := "int") (by decide +kernel)) (by rfl) B.isinstance_ (by decide +kernel) (pa_cons (pv 1) (pa_cons (pe_bltn rfl B.int_ (by decide +kernel) rfl) pa_nil))) (by intro _; rfl))))) (pss_one (ps_ret (pe_and (pe_callB (call_isT (T := "int") (by decide +kernel)) (by rfl) B.isinstance_ (by decide +kernel) (pa_cons (pv 0) (pa_cons (pe_bltn rfl B.int_ (by decide +kernel) rfl) pa_nil))) (pe_and (pe_callB (call_isT (T := "int") (by decide +kernel)) (by rfl) B.isinstance_ (by decide +kernel) (pa_cons (pv 1) (pa_cons (pe_bltn rfl B.int_ (by decide +kernel) rfl) pa_nil))) (pe_one (pe_cmpR op_eq (pv 0) (pv 1) (nomark _))))))) pss_nil)
    (pss_cons (ps_if (PW.pt (pw_or (pt_val (pe_callB (call_isT (T := "str") (by decide +kernel)) (by rfl) B.isinstance_ (by decide +kernel) (pa_cons (pv 0) (pa_cons (pe_bltn rfl B.str_ (by decide +kernel) rfl) pa_nil))) (by intro _; rfl)) (pw_or1 (pt_val (pe_callB (call_isT (T := "str") (by decide +kernel)) (by rfl) B.isinstance_ (by decide +kernel) (pa_cons (pv 1) (pa_cons (pe_bltn rfl B.str_ (by decide +kernel) rfl) pa_nil))) (by intro _; rfl))))) (pss_one (ps_ret (pe_and (pe_callB (call_isT (T := "str") (by decide +kernel)) (by rfl) B.isinstance_ (by decide +kernel) (pa_cons (pv 0) (pa_cons (pe_bltn rfl B.str_ (by decide +kernel) rfl) pa_nil))) (pe_and (pe_callB (call_isT (T := "str") (by decide +kernel)) (by rfl) B.isinstance_ (by decide +kernel) (pa_cons (pv 1) (pa_cons (pe_bltn rfl B.str_ (by decide +kernel) rfl) pa_nil))) (pe_one (pe_cmpR op_eq (pv 0) (pv 1) (nomark _))))))) pss_nil)
    (pss_cons (ps_if (PW.pt (pw_and (pt_val (pe_callB (call_isT (T := "dict") (by decide +kernel)) (by rfl) B.isinstance_ (by decide +kernel) (pa_cons (pv 0) (pa_cons (pe_bltn rfl B.dict_ (by decide +kernel) rfl) pa_nil))) (by intro _; rfl)) (pw_and1 (pt_val (pe_callB (call_isT (T := "dict") (by decide +kernel)) (by rfl) B.isinstance_ (by decide +kernel) (pa_cons (pv 1) (pa_cons (pe_bltn rfl B.dict_ (by decide +kernel) rfl) pa_nil))) (by intro _; rfl))))) (pss_cons ps_nv
    (pss_one ps_nv)) pss_nil)
    (pss_cons (ps_if (PW.pt (pw_or (pt_cmpR op_ne (pe_callB (call_isT (T := "tuple") (by decide +kernel)) (by rfl) B.isinstance_ (by decide +kernel) (pa_cons (pv 0) (pa_cons (pe_bltn rfl B.tuple_ (by decide +kernel) rfl) pa_nil))) (pe_callB (call_isT (T := "tuple") (by decide +kernel)) (by rfl) B.isinstance_ (by decide +kernel) (pa_cons (pv 1) (pa_cons (pe_bltn rfl B.tuple_ (by decide +kernel) rfl) pa_nil))) (nomark _)) (pw_or1 (pt_cmpR op_ne (pe_callB (call_isT (T := "list") (by decide +kernel)) (by rfl) B.isinstance_ (by decide +kernel) (pa_cons (pv 0) (pa_cons (pe_bltn rfl B.list_ (by decide +kernel) rfl) pa_nil))) (pe_callB (call_isT (T := "list") (by decide +kernel)) (by rfl) B.isinstance_ (by decide +kernel) (pa_cons (pv 1) (pa_cons (pe_bltn rfl B.list_ (by decide +kernel) rfl) pa_nil))) (nomark _))))) (pss_one (ps_ret pe_bl)) pss_nil)
    (pss_cons (ps_if (PW.pt (pw_and (pt_not (pt_val (pe_callB (call_isT (T := "tuple") (by decide +kernel)) (by rfl) B.isinstance_ (by decide +kernel) (pa_cons (pv 0) (pa_cons (pe_bltn rfl B.tuple_ (by decide +kernel) rfl) pa_nil))) (by intro _; rfl))) (pw_and1 (pt_not (pt_val (pe_callB (call_isT (T := "list") (by decide +kernel)) (by rfl) B.isinstance_ (by decide +kernel) (pa_cons (pv 0) (pa_cons (pe_bltn rfl B.list_ (by decide +kernel) rfl) pa_nil))) (by intro _; rfl)))))) (pss_one (ps_ret pe_bl)) pss_nil)
    (pss_cons (ps_if (pt_cmpR op_ne (pe_callB call_len (by rfl) B.len_ boot_len (pa_cons (pv 0) pa_nil)) (pe_callB call_len (by rfl) B.len_ boot_len (pa_cons (pv 1) pa_nil)) (nomark _)) (pss_one (ps_ret pe_bl)) pss_nil)
    (pss_cons ps_nv
    (pss_one (ps_ret pe_bl)))))))))))

abbrev s_Store___init__ : Stmt := inClass (top 4) 0
def N_Store___init__ : List Str := ["self"]
abbrev p_Store___init__ : List Str := ["self"]
theorem sc_Store___init__ : FnScope N_Store___init__ p_Store___init__ (defScope s_Store___init__) := ⟨rfl, rfl, rfl, by decide +kernel, rfl, by decide +kernel, by decide +kernel⟩
def t_Store___init__ (K : PySem.W.Frag) (W : WX) : TS :=
  (qFldS [(He.ga K "Store")] ks_Store 0 (tVar 0) tDNewK)
theorem d_Store___init__ {P : Program} {w : World} {K : PySem.W.Frag} {mg : Str → Option Value} {base : Heap} (B : Blt mg) (fl_Store__pairs : Fld K [(He.ga K "Store")] ks_Store 0 "_pairs") {f : Addr} (cdv : Value) (A : Around) (outer : List Env) (s : Shared) (H : Hp) (E : XK) (W : WX)
    (hr : Room 0 (A.deeper (envOfC "Store.__init__" (defScope s_Store___init__) s.heap.objs.size f cdv))) (tk : L2N.Takes (cxOf (L2N.CX P w) P w K mg base N_Store___init__ "Store.__init__" (defScope s_Store___init__) f cdv A outer s H E) W) :
    PSs (cxOf (L2N.CX P w) P w K mg base N_Store___init__ "Store.__init__" (defScope s_Store___init__) f cdv A outer s H E) (defBody s_Store___init__) (t_Store___init__ K W) :=
  (pss_one (ps_f fl_Store__pairs (pv 0) pe_dnewK))

abbrev s_Store___setitem__ : Stmt := inClass (top 4) 1
def N_Store___setitem__ : List Str := ["self", "at", "worth"]
abbrev p_Store___setitem__ : List Str := ["self", "at", "worth"]
theorem sc_Store___setitem__ : FnScope N_Store___setitem__ p_Store___setitem__ (defScope s_Store___setitem__) := ⟨rfl, rfl, rfl, by decide +kernel, rfl, by decide +kernel, by decide +kernel⟩
def t_Store___setitem__ (K : PySem.W.Frag) (W : WX) : TS :=
  (sDPut (qFld [(He.ga K "Store")] ks_Store 0 (tVar 0)) (tVar 1) (tVar 2))
theorem d_Store___setitem__ {P : Program} {w : World} {K : PySem.W.Frag} {mg : Str → Option Value} {base : Heap} (B : Blt mg) (fl_Store__pairs : Fld K [(He.ga K "Store")] ks_Store 0 "_pairs") {f : Addr} (cdv : Value) (A : Around) (outer : List Env) (s : Shared) (H : Hp) (E : XK) (W : WX)
    (hr : Room 0 (A.deeper (envOfC "Store.__setitem__" (defScope s_Store___setitem__) s.heap.objs.size f cdv))) (tk : L2N.Takes (cxOf (L2N.CX P w) P w K mg base N_Store___setitem__ "Store.__setitem__" (defScope s_Store___setitem__) f cdv A outer s H E) W) :
    PSs (cxOf (L2N.CX P w) P w K mg base N_Store___setitem__ "Store.__setitem__" (defScope s_Store___setitem__) f cdv A outer s H E) (defBody s_Store___setitem__) (t_Store___setitem__ K W) :=
  (pss_one (ps_dput (hu_of hr) (pe_f fl_Store__pairs (pv 0)) (pv 1) (pv 2) rfl))

abbrev s_Store___getitem__ : Stmt := inClass (top 4) 2
def N_Store___getitem__ : List Str := ["self", "at"]
abbrev p_Store___getitem__ : List Str := ["self", "at"]
theorem sc_Store___getitem__ : FnScope N_Store___getitem__ p_Store___getitem__ (defScope s_Store___getitem__) := ⟨rfl, rfl, rfl, by decide +kernel, rfl, by decide +kernel, by decide +kernel⟩
def t_Store___getitem__ (K : PySem.W.Frag) (W : WX) : TS :=
  (tSeq (tIfS (tB (tDNotIn (tVar 1) (qFld [(He.ga K "Store")] ks_Store 0 (tVar 0)))) (tRaiseX (He.ga K "NoKey") "key" W (tCons (tVar 1) tNil)) tNext)
    (tRet (tDGet (qFld [(He.ga K "Store")] ks_Store 0 (tVar 0)) (tVar 1))))
theorem d_Store___getitem__ {P : Program} {w : World} {K : PySem.W.Frag} {mg : Str → Option Value} {base : Heap} (B : Blt mg) (fl_Store__pairs : Fld K [(He.ga K "Store")] ks_Store 0 "_pairs") (xt_NoKey : UX.XT P K (He.ga K "NoKey") (He.ga K "NoKey") (He.ma K (He.ga K "NoKey") "__init__") "key") (b_super : mg "super" = none) (g_NoKey : mg "NoKey" = some (.ref (He.ga K "NoKey"))) {f : Addr} (cdv : Value) (A : Around) (outer : List Env) (s : Shared) (H : Hp) (E : XK) (W : WX)
    (hr : Room 1 (A.deeper (envOfC "Store.__getitem__" (defScope s_Store___getitem__) s.heap.objs.size f cdv))) (tk : L2N.Takes (cxOf (L2N.CX P w) P w K mg base N_Store___getitem__ "Store.__getitem__" (defScope s_Store___getitem__) f cdv A outer s H E) W) :
    PSs (cxOf (L2N.CX P w) P w K mg base N_Store___getitem__ "Store.__getitem__" (defScope s_Store___getitem__) f cdv A outer s H E) (defBody s_Store___getitem__) (t_Store___getitem__ K W) :=
  (pss_cons (ps_if (pt_cmp (pc_dnotin (hu_of hr) (pv 1) (pe_f fl_Store__pairs (pv 0)))) (pss_one (ps_raiseX rfl xt_NoKey g_NoKey b_super hr tk (pa_cons (pv 1) pa_nil))) pss_nil)
    (pss_one (ps_ret (pe_dget (hu_of hr) (pe_f fl_Store__pairs (pv 0)) (pv 1) (fun _ _ => rfl)))))

abbrev s_Store___contains__ : Stmt := inClass (top 4) 3
def N_Store___contains__ : List Str := ["self", "x"]
abbrev p_Store___contains__ : List Str := ["self", "x"]
theorem sc_Store___contains__ : FnScope N_Store___contains__ p_Store___contains__ (defScope s_Store___contains__) := ⟨rfl, rfl, rfl, by decide +kernel, rfl, by decide +kernel, by decide +kernel⟩
def t_Store___contains__ (K : PySem.W.Frag) (W : WX) : TS :=
  (tRet (tDIn (tVar 1) (qFld [(He.ga K "Store")] ks_Store 0 (tVar 0))))
theorem d_Store___contains__ {P : Program} {w : World} {K : PySem.W.Frag} {mg : Str → Option Value} {base : Heap} (B : Blt mg) (fl_Store__pairs : Fld K [(He.ga K "Store")] ks_Store 0 "_pairs") {f : Addr} (cdv : Value) (A : Around) (outer : List Env) (s : Shared) (H : Hp) (E : XK) (W : WX)
    (hr : Room 0 (A.deeper (envOfC "Store.__contains__" (defScope s_Store___contains__) s.heap.objs.size f cdv))) (tk : L2N.Takes (cxOf (L2N.CX P w) P w K mg base N_Store___contains__ "Store.__contains__" (defScope s_Store___contains__) f cdv A outer s H E) W) :
    PSs (cxOf (L2N.CX P w) P w K mg base N_Store___contains__ "Store.__contains__" (defScope s_Store___contains__) f cdv A outer s H E) (defBody s_Store___contains__) (t_Store___contains__ K W) :=
  (pss_one (ps_ret (pe_cmp (pc_din (hu_of hr) (pv 1) (pe_f fl_Store__pairs (pv 0))))))

abbrev s_Store___len__ : Stmt := inClass (top 4) 4
def N_Store___len__ : List Str := ["self"]
abbrev p_Store___len__ : List Str := ["self"]
theorem sc_Store___len__ : FnScope N_Store___len__ p_Store___len__ (defScope s_Store___len__) := ⟨rfl, rfl, rfl, by decide +kernel, rfl, by decide +kernel, by decide +kernel⟩
def t_Store___len__ (K : PySem.W.Frag) (W : WX) : TS :=
  (tRet (tCB qLenD (tCons (qFld [(He.ga K "Store")] ks_Store 0 (tVar 0)) tNil)))
theorem d_Store___len__ {P : Program} {w : World} {K : PySem.W.Frag} {mg : Str → Option Value} {base : Heap} (B : Blt mg) (fl_Store__pairs : Fld K [(He.ga K "Store")] ks_Store 0 "_pairs") {f : Addr} (cdv : Value) (A : Around) (outer : List Env) (s : Shared) (H : Hp) (E : XK) (W : WX)
    (hr : Room 0 (A.deeper (envOfC "Store.__len__" (defScope s_Store___len__) s.heap.objs.size f cdv))) (tk : L2N.Takes (cxOf (L2N.CX P w) P w K mg base N_Store___len__ "Store.__len__" (defScope s_Store___len__) f cdv A outer s H E) W) :
    PSs (cxOf (L2N.CX P w) P w K mg base N_Store___len__ "Store.__len__" (defScope s_Store___len__) f cdv A outer s H E) (defBody s_Store___len__) (t_Store___len__ K W) :=
  (pss_one (ps_ret (pe_callB call_lenDR (by rfl) B.len_ boot_len (pa_cons (pe_f fl_Store__pairs (pv 0)) pa_nil))))

abbrev s_Store___iter__ : Stmt := inClass (top 4) 5
def N_Store___iter__ : List Str := ["self"]
abbrev p_Store___iter__ : List Str := ["self"]
theorem sc_Store___iter__ : FnScope N_Store___iter__ p_Store___iter__ (defScope s_Store___iter__) := ⟨rfl, rfl, rfl, by decide +kernel, rfl, by decide +kernel, by decide +kernel⟩
def t_Store___iter__ (K : PySem.W.Frag) (W : WX) : TS :=
  (tRet (tCB rIterV (tCons (tItemsV (qFld [(He.ga K "Store")] ks_Store 0 (tVar 0))) tNil)))
theorem d_Store___iter__ {P : Program} {w : World} {K : PySem.W.Frag} {mg : Str → Option Value} {base : Heap} (B : Blt mg) (fl_Store__pairs : Fld K [(He.ga K "Store")] ks_Store 0 "_pairs") (b_iter : mg "iter" = none) {f : Addr} (cdv : Value) (A : Around) (outer : List Env) (s : Shared) (H : Hp) (E : XK) (W : WX)
    (hr : Room 0 (A.deeper (envOfC "Store.__iter__" (defScope s_Store___iter__) s.heap.objs.size f cdv))) (tk : L2N.Takes (cxOf (L2N.CX P w) P w K mg base N_Store___iter__ "Store.__iter__" (defScope s_Store___iter__) f cdv A outer s H E) W) :
    PSs (cxOf (L2N.CX P w) P w K mg base N_Store___iter__ "Store.__iter__" (defScope s_Store___iter__) f cdv A outer s H E) (defBody s_Store___iter__) (t_Store___iter__ K W) :=
  (pss_one (ps_ret (pe_callB call_iterV (by rfl) b_iter (by decide +kernel) (pa_cons (pe_itemsV (pe_f fl_Store__pairs (pv 0))) pa_nil))))

abbrev s_Store_rows : Stmt := inClass (top 4) 6
def N_Store_rows : List Str := ["self"]
abbrev p_Store_rows : List Str := ["self"]
theorem sc_Store_rows : FnScope N_Store_rows p_Store_rows (defScope s_Store_rows) := ⟨rfl, rfl, rfl, by decide +kernel, rfl, by decide +kernel, by decide +kernel⟩
def t_Store_rows (K : PySem.W.Frag) (W : WX) : TS :=
  (tRet (LiI.tListItems (qFld [(He.ga K "Store")] ks_Store 0 (tVar 0))))
theorem d_Store_rows {P : Program} {w : World} {K : PySem.W.Frag} {mg : Str → Option Value} {base : Heap} (B : Blt mg) (fl_Store__pairs : Fld K [(He.ga K "Store")] ks_Store 0 "_pairs") {f : Addr} (cdv : Value) (A : Around) (outer : List Env) (s : Shared) (H : Hp) (E : XK) (W : WX)
    (hr : Room 0 (A.deeper (envOfC "Store.rows" (defScope s_Store_rows) s.heap.objs.size f cdv))) (tk : L2N.Takes (cxOf (L2N.CX P w) P w K mg base N_Store_rows "Store.rows" (defScope s_Store_rows) f cdv A outer s H E) W) :
    PSs (cxOf (L2N.CX P w) P w K mg base N_Store_rows "Store.rows" (defScope s_Store_rows) f cdv A outer s H E) (defBody s_Store_rows) (t_Store_rows K W) :=
  (pss_one (ps_ret (LiI.pe_listItems rfl (pe_f fl_Store__pairs (pv 0)) (by rfl) B.list_ boot_list)))

abbrev s__law_set : Stmt := top 12
def N__law_set : List Str := ["_law_rows", "_law_key", "_law_worth", "_law_found_here", "_law_row"]
abbrev p__law_set : List Str := ["_law_rows", "_law_key", "_law_worth"]
theorem sc__law_set : FnScope N__law_set p__law_set (defScope s__law_set) := ⟨rfl, rfl, rfl, by decide +kernel, rfl, by decide +kernel, by decide +kernel⟩
def t__law_set (K : PySem.W.Frag) (W : WX) : TS :=
  (tSeq (tAsg (tLc (iList K (tVar 0)) (gName 4) tYes (tTup (tCons (tOp (rIxT K) (tVar 4) (tC (.int 0))) (tCons (tIf (tTest (tOp rEq (tOp (rIxT K) (tVar 4) (tC (.int 0))) (tVar 1))) (tVar 2) (tOp (rIxT K) (tVar 4) (tC (.int 1)))) tNil))) [4]) (gName 3))
    (tSeq (tIfS (tTest (tOp (rIn K true) (tVar 1) (tLc (iList K (tVar 0)) (gName 4) tYes (tOp (rIxT K) (tVar 4) (tC (.int 0))) [4]))) (tDrop (tBM K "list" rAppend (tVar 3) (tCons (tTup (tCons (tVar 1) (tCons (tVar 2) tNil))) tNil))) tNext)
    (tRet (tVar 3))))
theorem d__law_set {P : Program} {w : World} {K : PySem.W.Frag} {mg : Str → Option Value} {base : Heap} (B : Blt mg) {f : Addr} (cdv : Value) (A : Around) (outer : List Env) (s : Shared) (H : Hp) (E : XK) (W : WX)
    (hr : Room 0 (A.deeper (envOfC "_law_set" (defScope s__law_set) s.heap.objs.size f cdv))) (tk : L2N.Takes (cxOf (L2N.CX P w) P w K mg base N__law_set "_law_set" (defScope s__law_set) f cdv A outer s H E) W) :
    PSs (cxOf (L2N.CX P w) P w K mg base N__law_set "_law_set" (defScope s__law_set) f cdv A outer s H E) (defBody s__law_set) (t__law_set K W) :=
  (pss_cons (ps_setLc (i := 3) (own := [("_law_row", 4)]) (g := (gName 4)) (tt := tYes) rfl sc__law_set.nd rfl rfl (sw_true rfl rfl rfl (by decide +kernel)) (pi_list (pv 0)) (blkOk_by (own := [("_law_row", 4)]) (N := N__law_set) (sc := defScope s__law_set) (by decide +kernel)) (fun _ _ _ _ _ => (pg_name (i := 4) sc__law_set.nd rfl (Or.inl rfl))) (fun _ _ _ _ _ => pts_nil) (fun _ _ _ _ _ => (pe_tup (pa_cons (pe_ix ix_tup (pv 4) pe_int (fun _ _ => rfl)) (pa_cons (pe_ifExp (pt_cmpR op_eq (pe_ix ix_tup (pv 4) pe_int (fun _ _ => rfl)) (pv 1) (nomark _)) (pv 2) (pe_ix ix_tup (pv 4) pe_int (fun _ _ => rfl))) pa_nil)))))
    (pss_cons (ps_if (pt_cmpR op_notIn_seq (pv 1) (pe_lc (own := [("_law_row", 4)]) (g := (gName 4)) (tt := tYes) rfl sc__law_set.nd (pi_list (pv 0)) (blkOk_by (own := [("_law_row", 4)]) (N := N__law_set) (sc := defScope s__law_set) (by decide +kernel)) (fun _ _ _ _ _ => (pg_name (i := 4) sc__law_set.nd rfl (Or.inl rfl))) (fun _ _ _ _ _ => pts_nil) (fun _ _ _ _ _ => (pe_ix ix_tup (pv 4) pe_int (fun _ _ => rfl)))) (by rfl)) (pss_one (ps_expr (pe_bm PySem.F.plainAttrs_list PySem.F.slot_list_append PySem.F.type_list_append mt_append (pv 3) (pa_cons (pe_tup (pa_cons (pv 1) (pa_cons (pv 2) pa_nil))) pa_nil)))) pss_nil)
    (pss_one (ps_ret (pv 3)))))

abbrev s__law_found : Stmt := top 13
def N__law_found : List Str := ["_law_store", "_law_key", "e"]
abbrev p__law_found : List Str := ["_law_store", "_law_key"]
theorem sc__law_found : FnScope N__law_found p__law_found (defScope s__law_found) := ⟨rfl, rfl, rfl, by decide +kernel, rfl, by decide +kernel, by decide +kernel⟩
def t__law_found (K : PySem.W.Frag) (W : WX) : TS :=
  (tSeq (tTryAs K (.ref (He.ga K "NoKey")) 2 (fun W2 => (tRet (tLst (tCons (tGetOwn (He.ga K "Store") (sp_Store___getitem__ K) (WE W2) (tVar 0) (tVar 1)) tNil))))
    (fun ea cls ed => (tIfS (tAnd (tB (tCB (rIsX K ea cls ed (He.ga K "NoKey")) (tCons (tVar 2) (tCons (tC (.ref (He.ga K "SlotError"))) tNil)))) (tB (tCallS (sp__law_same 0) (WE (fun _ _ _ _ => False)) (tCons (tXf ea cls ed (He.ga K "NoKey") "key" (tVar 2)) (tCons (tVar 1) tNil))))) (tRet (tLst tNil)) tNext)) W)
    (tRet (tLst (tCons (tC (.str "another error")) tNil))))
theorem d__law_found {P : Program} {w : World} {K : PySem.W.Frag} {mg : Str → Option Value} {base : Heap} (B : Blt mg) (M_Store___getitem__ : Met P w K mg base (He.ga K "Store") "__getitem__" 2 (sp_Store___getitem__ K)) (g_SlotError : mg "SlotError" = some (.ref (He.ga K "SlotError"))) (xf_NoKey : XF K (He.ga K "NoKey")) (na_NoKey_key : PySem.W.findIn K (.ref (He.ga K "NoKey")) "key" = some none) (T__law_same : FnT P w K mg base "_law_same" 1 (sp__law_same 0)) (g_NoKey : mg "NoKey" = some (.ref (He.ga K "NoKey"))) {f : Addr} (cdv : Value) (A : Around) (outer : List Env) (s : Shared) (H : Hp) (E : XK) (W : WX)
    (hr : Room 3 (A.deeper (envOfC "_law_found" (defScope s__law_found) s.heap.objs.size f cdv))) (tk : L2N.Takes (cxOf (L2N.CX P w) P w K mg base N__law_found "_law_found" (defScope s__law_found) f cdv A outer s H E) W) :
    PSs (cxOf (L2N.CX P w) P w K mg base N__law_found "_law_found" (defScope s__law_found) f cdv A outer s H E) (defBody s__law_found) (t__law_found K W) :=
  (pss_cons (L2N.ps_try_as (i := 2) rfl rfl sc__law_found.nd rfl rfl (by exact ⟨rfl, by decide, .inl g_NoKey⟩) tk (fun W2 pn xe tk2 po2 => (pss_one (ps_ret (pe_lst (pa_cons (pe_getOwn M_Store___getitem__ (hr.mono (by decide)) tk2 (pv 0) (pv 1)) pa_nil)))))
    (fun ea oe cls ed pn hz hf => (pss_one (ps_if (PW.pt (pw_and (pt_val (pe_callB (call_isX xf_NoKey hz hf) (by rfl) B.isinstance_ (by decide +kernel) (pa_cons (pv 2) (pa_cons (pe_glob rfl g_SlotError rfl) pa_nil))) (by intro _; rfl)) (pw_and1 (pt_val (pe_fnT T__law_same (roomS hr (by decide)) (hot_suite hz hf) takesF (pa_cons (pe_xf' xf_NoKey na_NoKey_key hz hf (pv 2)) (pa_cons (pv 1) pa_nil))) (by intro _; rfl))))) (pss_one (ps_ret (pe_lst pa_nil))) pss_nil))))
    (pss_one (ps_ret (pe_lst (pa_cons pe_str pa_nil)))))

abbrev s__law_tells : Stmt := top 14
def N__law_tells : List Str := ["_law_store", "_law_rows", "_law_keys", "_law_seen", "_law_key", "_law_due", "_law_row"]
abbrev p__law_tells : List Str := ["_law_store", "_law_rows", "_law_keys"]
theorem sc__law_tells : FnScope N__law_tells p__law_tells (defScope s__law_tells) := ⟨rfl, rfl, rfl, by decide +kernel, rfl, by decide +kernel, by decide +kernel⟩
def t__law_tells (K : PySem.W.Frag) (W : WX) : TS :=
  (tSeq (tAsg (tMe (He.ga K "Store") ks_Store (sp_Store_rows K) (WE W) (tVar 0) tNil) (gName 3))
    (tSeq (tIfS (tNot (tB (tCallS (sp__law_same 2) (WE W) (tCons (tVar 3) (tCons (tVar 1) tNil))))) (tRet (tC (.bl false))) tNext)
    (tSeq (tDrop (tBM K "list" rAppend (tVar 3) (tCons (tTup (tCons (tC (.str "q")) (tCons (tC (.int 1)) tNil))) tNil)))
    (tSeq (tAsg (tTup (tCons (tC (.str "zz")) (tCons (tC (.int 2)) tNil))) (gSub (tVar 3) (tC (.int 0)) rSetL))
    (tSeq (tIfS (tOr (tNot (tB (tCallS (sp__law_same 2) (WE W) (tCons (tMe (He.ga K "Store") ks_Store (sp_Store_rows K) (WE W) (tVar 0) tNil) (tCons (tVar 1) tNil))))) (tOr (tNot (tB (tCallS (sp__law_same 2) (WE W) (tCons (tCB (rListD (He.ga K "Store") (sp_Store___iter__ K) (sp_Store___len__ K)) (tCons (tVar 0) tNil)) (tCons (tVar 1) tNil))))) (tTest (tOp rNe (tCB (rLenOwn (He.ga K "Store") (sp_Store___len__ K)) (tCons (tVar 0) tNil)) (tCB (qLen K) (tCons (tVar 1) tNil)))))) (tRet (tC (.bl false))) tNext)
    (tSeq (tFor (iList K (tVar 2)) (gName 4) (tSeq (tAsg (tLc (iList K (tVar 1)) (gName 6) (tTest (tOp rEq (tOp (rIxT K) (tVar 6) (tC (.int 0))) (tVar 4))) (tOp (rIxT K) (tVar 6) (tC (.int 1))) [6]) (gName 5))
    (tIfS (tOr (tNot (tB (tCallS (sp__law_same 2) (WE W) (tCons (tOp (rInOwn (He.ga K "Store") false (sp_Store___contains__ K)) (tVar 4) (tVar 0)) (tCons (tOp rEq (tCB (qLen K) (tCons (tVar 5) tNil)) (tC (.int 1))) tNil))))) (tNot (tB (tCallS (sp__law_same 2) (WE W) (tCons (tCallS (sp__law_found K) (WE W) (tCons (tVar 0) (tCons (tVar 4) tNil))) (tCons (tVar 5) tNil)))))) (tRet (tC (.bl false))) tNext)))
    (tRet (tC (.bl true)))))))))
theorem d__law_tells {P : Program} {w : World} {K : PySem.W.Frag} {mg : Str → Option Value} {base : Heap} (B : Blt mg) (M_Store_rows : Met P w K mg base (He.ga K "Store") "rows" 1 (sp_Store_rows K)) (F__law_same : Fn P w K mg base "_law_same" 3 (sp__law_same 2)) (M_Store___iter__ : Met P w K mg base (He.ga K "Store") "__iter__" 1 (sp_Store___iter__ K)) (M_Store___len__ : Met P w K mg base (He.ga K "Store") "__len__" 1 (sp_Store___len__ K)) (M_Store___contains__ : Met P w K mg base (He.ga K "Store") "__contains__" 1 (sp_Store___contains__ K)) (F__law_found : Fn P w K mg base "_law_found" 4 (sp__law_found K)) {f : Addr} (cdv : Value) (A : Around) (outer : List Env) (s : Shared) (H : Hp) (E : XK) (W : WX)
    (hr : Room 6 (A.deeper (envOfC "_law_tells" (defScope s__law_tells) s.heap.objs.size f cdv))) (tk : L2N.Takes (cxOf (L2N.CX P w) P w K mg base N__law_tells "_law_tells" (defScope s__law_tells) f cdv A outer s H E) W) :
    PSs (cxOf (L2N.CX P w) P w K mg base N__law_tells "_law_tells" (defScope s__law_tells) f cdv A outer s H E) (defBody s__law_tells) (t__law_tells K W) :=
  (pss_cons (ps_set (i := 3) sc__law_tells.nd rfl (Or.inl rfl) (pe_me0 (ks := ks_Store) M_Store_rows (by decide +kernel) (hr.mono (by decide)) tk (pv 0)))
    (pss_cons (ps_if (pt_not (pt_val (pe_fn F__law_same (hr.mono (by decide)) tk (pa_cons (pv 3) (pa_cons (pv 1) pa_nil))) (by intro _; rfl))) (pss_one (ps_ret pe_bl)) pss_nil)
    (pss_cons (ps_expr (pe_bm PySem.F.plainAttrs_list PySem.F.slot_list_append PySem.F.type_list_append mt_append (pv 3) (pa_cons (pe_tup (pa_cons pe_str (pa_cons pe_int pa_nil))) pa_nil)))
    (pss_cons (ps_asg (pe_tup (pa_cons pe_str (pa_cons pe_int pa_nil))) (pg_sub (pv 3) pe_int set_list))
    (pss_cons (ps_if (PW.pt (pw_or (pt_not (pt_val (pe_fn F__law_same (hr.mono (by decide)) tk (pa_cons (pe_me0 (ks := ks_Store) M_Store_rows (by decide +kernel) (hr.mono (by decide)) tk (pv 0)) (pa_cons (pv 1) pa_nil))) (by intro _; rfl))) (pw_or (pt_not (pt_val (pe_fn F__law_same (hr.mono (by decide)) tk (pa_cons (pe_callTy (call_listD rfl M_Store___iter__ M_Store___len__ (hr.mono (by decide))) (by rfl) B.list_ boot_list (pa_cons (pv 0) pa_nil)) (pa_cons (pv 1) pa_nil))) (by intro _; rfl))) (pw_or1 (pt_cmpR op_ne (pe_callB (call_lenOwn M_Store___len__ (hr.mono (by decide))) (by rfl) B.len_ boot_len (pa_cons (pv 0) pa_nil)) (pe_callB call_len (by rfl) B.len_ boot_len (pa_cons (pv 1) pa_nil)) (nomark _)))))) (pss_one (ps_ret pe_bl)) pss_nil)
    (pss_cons (ps_for (L2.passes_of rfl) rfl (pi_list (pv 2)) (pg_name (i := 4) sc__law_tells.nd rfl (Or.inr rfl)) (pss_cons (ps_setLc (i := 5) (own := [("_law_row", 6)]) (g := (gName 6)) (tt := (tTest (tOp rEq (tOp (rIxT K) (tVar 6) (tC (.int 0))) (tVar 4)))) rfl sc__law_tells.nd rfl rfl (sw_true rfl rfl rfl (by decide +kernel)) (pi_list (pv 1)) (blkOk_by (own := [("_law_row", 6)]) (N := N__law_tells) (sc := defScope s__law_tells) (by decide +kernel)) (fun _ _ _ _ _ => (pg_name (i := 6) sc__law_tells.nd rfl (Or.inl rfl))) (fun _ _ _ _ _ => (pts_one (pt_cmpR op_eq (pe_ix ix_tup (pv 6) pe_int (fun _ _ => rfl)) (pv 4) (nomark _)))) (fun _ _ _ _ _ => (pe_ix ix_tup (pv 6) pe_int (fun _ _ => rfl))))
    (pss_one (ps_if (PW.pt (pw_or (pt_not (pt_val (pe_fn F__law_same (hr.mono (by decide)) tk (pa_cons (pe_cmpR (op_inOwn M_Store___contains__ (hr.mono (by decide))) (pv 4) (pv 0) (by rfl)) (pa_cons (pe_cmpR op_eq (pe_callB call_len (by rfl) B.len_ boot_len (pa_cons (pv 5) pa_nil)) pe_int (nomark _)) pa_nil))) (by intro _; rfl))) (pw_or1 (pt_not (pt_val (pe_fn F__law_same (hr.mono (by decide)) tk (pa_cons (pe_fn F__law_found (hr.mono (by decide)) tk (pa_cons (pv 0) (pa_cons (pv 4) pa_nil))) (pa_cons (pv 5) pa_nil))) (by intro _; rfl)))))) (pss_one (ps_ret pe_bl)) pss_nil))))
    (pss_one (ps_ret pe_bl))))))))

abbrev s_law : Stmt := top 15
def N_law : List Str := ["_law_script", "_law_state", "_law_keys", "_law_k", "_law_first", "_law_second", "_law_first_rows", "_law_second_rows", "_law_turn", "_law_key", "_law_worth"]
abbrev p_law : List Str := ["_law_script"]
theorem sc_law : FnScope N_law p_law (defScope s_law) := ⟨rfl, rfl, rfl, by decide +kernel, rfl, by decide +kernel, by decide +kernel⟩
def t_law (K : PySem.W.Frag) (W : WX) : TS :=
  (tSeq (tAsg (tCallS (sp__law_start K) (WE W) (tCons (tVar 0) tNil)) (gName 1))
    (tSeq (tAsg (tOp rCat (tLc (iRng1 (tCons (tC (.int 3)) tNil)) (gName 3) tYes (tCallS (sp__law_word K) (WE (fun _ _ _ _ => False)) (tCons (tVar 1) tNil)) [3]) (tLst (tCons (tC (.str "")) (tCons (tC (.str "Key of 2")) (tCons (tC (.str "q")) tNil))))) (gName 2))
    (tSeq (tAsg (tMk (He.ga K "Store") (sp_Store___init__ K) (WE W) tNil) (gName 4))
    (tSeq (tAsg (tMk (He.ga K "Store") (sp_Store___init__ K) (WE W) tNil) (gName 5))
    (tSeq (tAsg (tLst tNil) (gName 6))
    (tSeq (tAsg (tLst tNil) (gName 7))
    (tSeq (tIfS (tOr (tNot (tB (tCallS (sp__law_tells K) (WE W) (tCons (tVar 4) (tCons (tVar 6) (tCons (tVar 2) tNil)))))) (tNot (tB (tCallS (sp__law_tells K) (WE W) (tCons (tVar 5) (tCons (tVar 7) (tCons (tVar 2) tNil))))))) (tRet (tC (.bl false))) tNext)
    (tSeq (tFor (iRng1 (tCons (tCallS (sp__law_draw K) (WE W) (tCons (tVar 1) (tCons (tC (.int 21)) tNil))) tNil)) (gName 8) (tSeq (tAsg (tOp (rIxL K) (tVar 2) (tCallS (sp__law_draw K) (WE W) (tCons (tVar 1) (tCons (tC (.int 6)) tNil)))) (gName 9))
    (tSeq (tAsg (tC (.int 0)) (gName 10))
    (tSeq (tIfS (tTest (tOp qGt (tCallS (sp__law_draw K) (WE W) (tCons (tVar 1) (tCons (tC (.int 3)) tNil))) (tC (.int 0)))) (tAsg (tCallS (sp__law_value K) (WE W) (tCons (tVar 1) tNil)) (gName 10)) tNext)
    (tSeq (tIfS (tTest (tOp rEq (tCallS (sp__law_draw K) (WE W) (tCons (tVar 1) (tCons (tC (.int 2)) tNil))) (tC (.int 0)))) (tSeq (tAsg (tVar 10) (gSub (tVar 4) (tVar 9) (rSetOwn (He.ga K "Store") (sp_Store___setitem__ K))))
    (tAsg (tCallS (sp__law_set K) (WE W) (tCons (tVar 6) (tCons (tVar 9) (tCons (tVar 10) tNil)))) (gName 6))) (tSeq (tAsg (tVar 10) (gSub (tVar 5) (tVar 9) (rSetOwn (He.ga K "Store") (sp_Store___setitem__ K))))
    (tAsg (tCallS (sp__law_set K) (WE W) (tCons (tVar 7) (tCons (tVar 9) (tCons (tVar 10) tNil)))) (gName 7))))
    (tIfS (tOr (tNot (tB (tCallS (sp__law_tells K) (WE W) (tCons (tVar 4) (tCons (tVar 6) (tCons (tVar 2) tNil)))))) (tNot (tB (tCallS (sp__law_tells K) (WE W) (tCons (tVar 5) (tCons (tVar 7) (tCons (tVar 2) tNil))))))) (tRet (tC (.bl false))) tNext))))))
    (tRet (tC (.bl true)))))))))))
theorem d_law {P : Program} {w : World} {K : PySem.W.Frag} {mg : Str → Option Value} {base : Heap} (B : Blt mg) (F__law_start : Fn P w K mg base "_law_start" 1 (sp__law_start K)) (F__law_word : Fn P w K mg base "_law_word" 3 (sp__law_word K)) (K_Store : Mkr P w K mg base "Store" (He.ga K "Store") 1 (sp_Store___init__ K)) (F__law_tells : Fn P w K mg base "_law_tells" 7 (sp__law_tells K)) (F__law_draw : Fn P w K mg base "_law_draw" 2 (sp__law_draw K)) (F__law_value : Fn P w K mg base "_law_value" 3 (sp__law_value K)) (M_Store___setitem__ : Met P w K mg base (He.ga K "Store") "__setitem__" 1 (sp_Store___setitem__ K)) (nq_Store : PySem.W.noSeq K (He.ga K "Store") = true) (F__law_set : Fn P w K mg base "_law_set" 1 (sp__law_set K)) {f : Addr} (cdv : Value) (A : Around) (outer : List Env) (s : Shared) (H : Hp) (E : XK) (W : WX)
    (hr : Room 7 (A.deeper (envOfC "law" (defScope s_law) s.heap.objs.size f cdv))) (tk : L2N.Takes (cxOf (L2N.CX P w) P w K mg base N_law "law" (defScope s_law) f cdv A outer s H E) W) :
    PSs (cxOf (L2N.CX P w) P w K mg base N_law "law" (defScope s_law) f cdv A outer s H E) (defBody s_law) (t_law K W) :=
  (pss_cons (ps_set (i := 1) sc_law.nd rfl (Or.inr rfl) (pe_fn F__law_start (hr.mono (by decide)) tk (pa_cons (pv 0) pa_nil)))
    (pss_cons (ps_set (i := 2) sc_law.nd rfl (Or.inl rfl) (pe_op op_cat (pe_lc (own := [("_law_k", 3)]) (g := (gName 3)) (tt := tYes) rfl sc_law.nd (pi_range1 (by rfl) B.range_ (pa_cons pe_int pa_nil)) (blkOk_by (own := [("_law_k", 3)]) (N := N_law) (sc := defScope s_law) (by decide +kernel)) (fun _ _ _ _ _ => (pg_name (i := 3) sc_law.nd rfl (Or.inl rfl))) (fun _ _ _ _ _ => pts_nil) (fun _ _ _ _ _ => (pe_fn F__law_word (hr.mono (by decide)) takesF (pa_cons (pv 1) pa_nil)))) (pe_lst (pa_cons pe_str (pa_cons pe_str (pa_cons pe_str pa_nil))))))
    (pss_cons (ps_set (i := 4) sc_law.nd rfl (Or.inl rfl) (pe_mk0 K_Store (hr.mono (by decide)) tk))
    (pss_cons (ps_set (i := 5) sc_law.nd rfl (Or.inl rfl) (pe_mk0 K_Store (hr.mono (by decide)) tk))
    (pss_cons (ps_set (i := 6) sc_law.nd rfl (Or.inl rfl) (pe_lst pa_nil))
    (pss_cons (ps_set (i := 7) sc_law.nd rfl (Or.inl rfl) (pe_lst pa_nil))
    (pss_cons (ps_if (PW.pt (pw_or (pt_not (pt_val (pe_fn F__law_tells (hr.mono (by decide)) tk (pa_cons (pv 4) (pa_cons (pv 6) (pa_cons (pv 2) pa_nil)))) (by intro _; rfl))) (pw_or1 (pt_not (pt_val (pe_fn F__law_tells (hr.mono (by decide)) tk (pa_cons (pv 5) (pa_cons (pv 7) (pa_cons (pv 2) pa_nil)))) (by intro _; rfl)))))) (pss_one (ps_ret pe_bl)) pss_nil)
    (pss_cons (ps_for (L2.passes_of rfl) rfl (pi_range1 (by rfl) B.range_ (pa_cons (pe_fn F__law_draw (hr.mono (by decide)) tk (pa_cons (pv 1) (pa_cons pe_int pa_nil))) pa_nil)) (pg_name (i := 8) sc_law.nd rfl (Or.inl rfl)) (pss_cons (ps_set (i := 9) sc_law.nd rfl (Or.inl rfl) (pe_ix ix_list (pv 2) (pe_fn F__law_draw (hr.mono (by decide)) tk (pa_cons (pv 1) (pa_cons pe_int pa_nil))) (fun _ _ => rfl)))
    (pss_cons (ps_set (i := 10) sc_law.nd rfl (Or.inl rfl) pe_int)
    (pss_cons (ps_if (pt_cmpR op_gt (pe_fn F__law_draw (hr.mono (by decide)) tk (pa_cons (pv 1) (pa_cons pe_int pa_nil))) pe_int (nomark _)) (pss_one (ps_set (i := 10) sc_law.nd rfl (Or.inl rfl) (pe_fn F__law_value (hr.mono (by decide)) tk (pa_cons (pv 1) pa_nil)))) pss_nil)
    (pss_cons (ps_if (pt_cmpR op_eq (pe_fn F__law_draw (hr.mono (by decide)) tk (pa_cons (pv 1) (pa_cons pe_int pa_nil))) pe_int (nomark _)) (pss_cons (ps_asg (pv 10) (pg_sub (pv 4) (pv 9) (set_own M_Store___setitem__ nq_Store (hr.mono (by decide)))))
    (pss_one (ps_set (i := 6) sc_law.nd rfl (Or.inl rfl) (pe_fn F__law_set (hr.mono (by decide)) tk (pa_cons (pv 6) (pa_cons (pv 9) (pa_cons (pv 10) pa_nil))))))) (pss_cons (ps_asg (pv 10) (pg_sub (pv 5) (pv 9) (set_own M_Store___setitem__ nq_Store (hr.mono (by decide)))))
    (pss_one (ps_set (i := 7) sc_law.nd rfl (Or.inl rfl) (pe_fn F__law_set (hr.mono (by decide)) tk (pa_cons (pv 7) (pa_cons (pv 9) (pa_cons (pv 10) pa_nil))))))))
    (pss_one (ps_if (PW.pt (pw_or (pt_not (pt_val (pe_fn F__law_tells (hr.mono (by decide)) tk (pa_cons (pv 4) (pa_cons (pv 6) (pa_cons (pv 2) pa_nil)))) (by intro _; rfl))) (pw_or1 (pt_not (pt_val (pe_fn F__law_tells (hr.mono (by decide)) tk (pa_cons (pv 5) (pa_cons (pv 7) (pa_cons (pv 2) pa_nil)))) (by intro _; rfl)))))) (pss_one (ps_ret pe_bl)) pss_nil)))))))
    (pss_one (ps_ret pe_bl))))))))))

end L51

set_option maxHeartbeats 4000000
namespace L51
open PySem PySem.Spec PyProof.Rows L2 U

local macro_rules | `(tactic| walk_at "lk") => `(tactic| first
  | assumption
  | exact upd_same
  | (refine same_get (by assumption) ?_; walk_at "lk")
  | (refine ext_get (by assumption) ?_ ?_; (walk_at "lk"); (walk_at "ne")))
local macro_rules | `(tactic| walk_at "ne") => `(tactic| first
  | assumption
  | (refine Ne.symm ?_; assumption)
  | exact ne_of_none (by walk_at "lk") (by assumption)
  | exact Ne.symm (ne_of_none (by walk_at "lk") (by assumption)))
local macro_rules | `(tactic| walk_at "fr") => `(tactic| first
  | exact Ext.refl
  | exact Same.refl _
  | assumption
  | (refine Ext.trans ?_ (by assumption); walk_at "fr")
  | (refine Ext.trans ?_ (Ext.of (by assumption)); walk_at "fr")
  | (refine Same.trans ?_ (by assumption); walk_at "fr"))
local macro_rules | `(tactic| walk_at "sd") => `(tactic| first
  | assumption
  | decide
  | omega
  | exact Or.inr ⟨by decide, by decide⟩
  | exact ⟨by decide, by decide, by decide⟩
  | exact ⟨by walk_at "sd", by walk_at "sd"⟩)
local macro_rules | `(tactic| walk_at "at") => `(tactic| first | exact rfl | assumption)
local macro_rules | `(tactic| walk_at "w1") => `(tactic| first
  | with_reducible refine s_var rfl ?_
  | with_reducible refine s_c ?_
  | with_reducible refine s_op ?_
  | with_reducible refine s_cons ?_
  | with_reducible refine s_nil ?_
  | with_reducible refine s_cb ?_
  | with_reducible refine s_i0 ?_
  | with_reducible refine s_eqI ?_
  | with_reducible refine s_seq ?_
  | with_reducible refine s_asg ?_
  | with_reducible refine s_gname ?_
  | with_reducible refine s_int ?_
  | ((with_reducible refine' s_ic ?sda ?_); (case sda => walk_at "sd"))
  | with_reducible refine s_ret ?_
  | with_reducible refine s_if ?_
  | with_reducible refine s_test ?_
  | with_reducible refine s_bl ?_
  | with_reducible refine s_nx ?_
  | with_reducible refine s_rt ?_
  | with_reducible refine s_drop ?_
  | with_reducible refine s_next ?_
  | with_reducible refine s_call ?_
  | with_reducible refine s_lst ?_
  | with_reducible refine s_tup ?_
  | with_reducible refine s_sub ?_
  | with_reducible refine s_itt ?_
  | with_reducible refine s_itf ?_
  | with_reducible refine s_and ?_
  | with_reducible refine s_or ?_
  | with_reducible refine s_notT ?_
  | with_reducible refine s_tb ?_
  | with_reducible refine s_rb ?_
  | with_reducible refine s_notV ?_
  | with_reducible refine s_andV ?_
  | with_reducible refine s_orV ?_
  | with_reducible refine s_ifE ?_
  | with_reducible refine s_isN ?_
  | with_reducible refine s_notN ?_
  | with_reducible refine s_dget ?_
  | with_reducible refine s_din ?_
  | with_reducible refine s_dnin ?_
  | with_reducible refine s_dput ?_
  | with_reducible refine s_fld ?_
  | with_reducible refine s_fldS ?_
  | with_reducible refine s_me ?_
  | with_reducible refine s_gown ?_
  | with_reducible refine s_try ?_
  | with_reducible refine s_bm ?_
  | with_reducible refine s_forL ?_
  | with_reducible refine s_forT ?_
  | with_reducible refine s_forR ?_
  | with_reducible refine s_forR2 ?_
  | with_reducible refine s_lc0 ?_
  | with_reducible refine s_ifbT rfl ?_
  | with_reducible refine s_ifbF rfl ?_
  | ((with_reducible refine' s_isT ?sda ?_); (case sda => walk_at "ty"))
  | ((with_reducible refine' s_ixl ?sda ?sdb ?_); (case sda => walk_at "lk"); (case sdb => walk_at "at"))
  | ((with_reducible refine' s_ixt ?sda ?sdb ?_); (case sda => walk_at "lk"); (case sdb => walk_at "at"))
  | ((with_reducible refine' s_lenl ?sda ?_); (case sda => walk_at "lk"))
  | ((with_reducible refine' s_lent ?sda ?_); (case sda => walk_at "lk"))
  | ((with_reducible refine' s_setl ?sda ?sdb ?_); (case sda => walk_at "lk"); (case sdb => walk_at "at"); (intro _ _ _))
  | ((with_reducible refine' s_fldv ?sda ?sdb ?sdc ?_); (case sda => walk_at "lk"); (case sdb => exact List.mem_cons_self); (case sdc => exact rfl))
  | ((with_reducible refine' s_fldSv ?sda ?sdb ?sdc ?_); (case sda => walk_at "lk"); (case sdb => exact List.mem_cons_self); (case sdc => first | decide | simp); (intro _ _ _))
  | ((with_reducible refine' s_mev ?sda ?_); (case sda => walk_at "lk"))
  | ((with_reducible refine' s_gownv ?sda ?_); (case sda => walk_at "lk"))
  | ((with_reducible refine' s_tyl ?sda ?_); (case sda => walk_at "lk"))
  | ((with_reducible refine' s_dinS ?sda ?_); (case sda => walk_at "lk"))
  | ((with_reducible refine' s_dninS ?sda ?_); (case sda => walk_at "lk"))
  | with_reducible refine s_eq rfl ?_
  | with_reducible refine s_ne rfl ?_
  | with_reducible refine s_raiseX ?_
  | with_reducible refine s_rt0 ?_)
local macro_rules | `(tactic| walk_at "ty") => `(tactic| first | exact rfl | exact ty_l (by walk_at "lk") | exact ty_t (by walk_at "lk"))
local macro_rules | `(tactic| walk_at "w") => `(tactic| repeat (walk_at "w1"))

variable {K : PySem.W.Frag}
theorem p_mixed {W : WX} (vs : List V) (H : Hp) (Q : VK) (E : XK) (h : sp__law_mixed K vs H Q E) : t__law_mixed K W { nx := fun _ H' => Q .non H', rt := Q } (start N__law_mixed vs) H := by
  obtain ⟨a, b, L, rfl, hL, k⟩ := h
  show t__law_mixed K W _ [some _, some _, some _, none] H
  unfold t__law_mixed
  walk_at "w"
  exact k _ (Int.emod_nonneg _ (by omega)) (Int.emod_lt_of_pos _ hL)
theorem p_draw {W : WX} (vs : List V) (H : Hp) (Q : VK) (E : XK) (h : sp__law_draw K vs H Q E) : t__law_draw K W { nx := fun _ H' => Q .non H', rt := Q } (start N__law_draw vs) H := by
  obtain ⟨s, l, L, rfl, ⟨cells, i, b, c, k, t, h1, h2, h3⟩, hL, hL2, q⟩ := h
  have ne := StAt.ne h1 h2
  have rb : ∀ x : Int, 0 ≤ x % L ∧ x % L < L := fun x => ⟨Int.emod_nonneg _ (by omega), Int.emod_lt_of_pos _ hL⟩
  show t__law_draw K W _ [some _, some _, none, none] H
  unfold t__law_draw
  walk_at "w"
  refine s_ite (fun c1 => ?_) (fun c1 => ?_)
  · walk_at "w"
    exact q _ _ (rb _).1 (rb _).2 ⟨cells, i, _, c, k, t, by walk_at "lk", by walk_at "lk", h3⟩ (by walk_at "fr")
  walk_at "w"
  refine s_ite (fun c2 => ?_) (fun c2 => ?_)
  · walk_at "w"
    exact ⟨_, _, _, rfl, hL, fun r r0 r1 => q _ _ r0 r1 ⟨cells, i, b, c, _, _, by walk_at "lk", by walk_at "lk", h3⟩ (by walk_at "fr")⟩
  walk_at "w"
  refine s_ite (fun c3 => ?_) (fun c3 => ?_)
  · walk_at "w"
    exact q _ _ (Int.le_refl _) hL ⟨cells, i, b, c, k, t, h1, h2, h3⟩ Ext.refl
  have hi : i.toNat < cells.length := by
    rw [List.length_map] at c3
    omega
  have ha : atI (cells.map V.int) i = some (.int cells[i.toNat]) := atI_of (by omega) hi
  walk_at "w"
  refine s_ite (fun c4 => ?_) (fun c4 => ?_)
  · walk_at "w"
    exact q _ _ (rb _).1 (rb _).2 ⟨cells, _, _, c, k, t, by walk_at "lk", by walk_at "lk", by omega⟩ (by walk_at "fr")
  · walk_at "w"
    exact ⟨_, _, _, rfl, hL, fun r r0 r1 => q _ _ r0 r1 ⟨cells, _, b, _, _, _, by walk_at "lk", by walk_at "lk", by omega⟩ (by walk_at "fr")⟩
theorem p_start {W : WX} (vs : List V) (H : Hp) (Q : VK) (E : XK) (h : sp__law_start K vs H Q E) : t__law_start K W { nx := fun _ H' => Q .non H', rt := Q } (start N__law_start vs) H := by
  obtain ⟨a, cells, rfl, hS, q⟩ := h
  show t__law_start K W _ [some _] H
  unfold t__law_start
  walk_at "w"
  refine s_listofS hS fun l H1 l1 l2 l3 => ?_
  walk_at "w"
  refine s_newL (by simp) fun p H2 m1 m2 m3 => q p l H2 (by walk_at "fr") (by
    cases e : H p with
    | none => rfl
    | some o => rw [l3 _ _ e] at m1; cases m1) l1 ⟨cells, 0, 0, 0, 0, 0, m2, by walk_at "lk", Int.le_refl _⟩
/-- a new thing is new -/
theorem none_of {H H1 : Hp} {p : Addr} (s : Same H H1) (h : H1 p = none) : H p = none := by
  cases e : H p with
  | none => rfl
  | some o => rw [s _ _ e] at h; cases h
/-- a new thing is changed -/
theorem same_ext {H H1 H2 : Hp} {p : Addr} (h : H p = none) (s : Same H H1) (e : Ext p H1 H2) : Same H H2 := fun b o z => e b o (s b o z) (ne_of_none z h)
theorem p_value {W : WX} (vs : List V) (H : Hp) (Q : VK) (E : XK) (h : sp__law_value K vs H Q E) : t__law_value K W { nx := fun _ H' => Q .non H', rt := Q } (start N__law_value vs) H := by
  obtain ⟨s, l, rfl, hs, q⟩ := h
  show t__law_value K W _ [some _, none] H
  unfold t__law_value
  walk_at "w"
  refine u_draw hs (by decide) (by decide) fun r H1 r0 r1 s1 e1 => ?_
  walk_at "w"
  refine s_ite (fun c1 => ?_) (fun c1 => ?_)
  · walk_at "w"
    exact u_draw s1 (by decide) (by decide) fun r H2 r0 r1 s2 e2 => by
      walk_at "w"
      exact q _ _ s2 (by walk_at "fr")
  walk_at "w"
  refine s_ite (fun c2 => ?_) (fun c2 => ?_)
  · walk_at "w"
    exact u_draw s1 (by decide) (by decide) fun r H2 r0 r1 s2 e2 => by
      walk_at "w"
      exact q _ _ s2 (by walk_at "fr")
  walk_at "w"
  refine s_ite (fun c3 => ?_) (fun c3 => ?_)
  · walk_at "w"
    exact u_draw s1 (by decide) (by decide) fun r H2 r0 r1 s2 e2 => by
      walk_at "w"
      exact q _ _ s2 (by walk_at "fr")
  · walk_at "w"
    exact u_draw s1 (by decide) (by decide +kernel) fun r H2 r0 r1 s2 e2 => by
      walk_at "w"
      exact q _ _ s2 (by walk_at "fr")
end L51


set_option maxHeartbeats 4000000
namespace L51
open PySem PySem.Spec PyProof.Rows L2 U

local macro_rules | `(tactic| walk_at "lk") => `(tactic| first
  | assumption
  | exact upd_same
  | (refine same_get (by assumption) ?_; walk_at "lk")
  | (refine ext_get (by assumption) ?_ ?_; (walk_at "lk"); (walk_at "ne")))
local macro_rules | `(tactic| walk_at "ne") => `(tactic| first
  | assumption
  | (refine Ne.symm ?_; assumption)
  | exact ne_of_none (by walk_at "lk") (by assumption)
  | exact Ne.symm (ne_of_none (by walk_at "lk") (by assumption)))
local macro_rules | `(tactic| walk_at "fr") => `(tactic| first
  | exact Ext.refl
  | exact Same.refl _
  | assumption
  | (refine Ext.trans ?_ (by assumption); walk_at "fr")
  | (refine Ext.trans ?_ (Ext.of (by assumption)); walk_at "fr")
  | (refine Same.trans ?_ (by assumption); walk_at "fr"))
local macro_rules | `(tactic| walk_at "sd") => `(tactic| first
  | assumption
  | decide
  | omega
  | exact Or.inr ⟨by decide, by decide⟩
  | exact ⟨by decide, by decide, by decide⟩
  | exact ⟨by walk_at "sd", by walk_at "sd"⟩)
local macro_rules | `(tactic| walk_at "at") => `(tactic| first | exact rfl | assumption)
local macro_rules | `(tactic| walk_at "w1") => `(tactic| first
  | with_reducible refine s_var rfl ?_
  | with_reducible refine s_c ?_
  | with_reducible refine s_op ?_
  | with_reducible refine s_cons ?_
  | with_reducible refine s_nil ?_
  | with_reducible refine s_cb ?_
  | with_reducible refine s_i0 ?_
  | with_reducible refine s_eqI ?_
  | with_reducible refine s_seq ?_
  | with_reducible refine s_asg ?_
  | with_reducible refine s_gname ?_
  | with_reducible refine s_int ?_
  | ((with_reducible refine' s_ic ?sda ?_); (case sda => walk_at "sd"))
  | with_reducible refine s_ret ?_
  | with_reducible refine s_if ?_
  | with_reducible refine s_test ?_
  | with_reducible refine s_bl ?_
  | with_reducible refine s_nx ?_
  | with_reducible refine s_rt ?_
  | with_reducible refine s_drop ?_
  | with_reducible refine s_next ?_
  | with_reducible refine s_call ?_
  | with_reducible refine s_lst ?_
  | with_reducible refine s_tup ?_
  | with_reducible refine s_sub ?_
  | with_reducible refine s_itt ?_
  | with_reducible refine s_itf ?_
  | with_reducible refine s_and ?_
  | with_reducible refine s_or ?_
  | with_reducible refine s_notT ?_
  | with_reducible refine s_tb ?_
  | with_reducible refine s_rb ?_
  | with_reducible refine s_notV ?_
  | with_reducible refine s_andV ?_
  | with_reducible refine s_orV ?_
  | with_reducible refine s_ifE ?_
  | with_reducible refine s_isN ?_
  | with_reducible refine s_notN ?_
  | with_reducible refine s_dget ?_
  | with_reducible refine s_din ?_
  | with_reducible refine s_dnin ?_
  | with_reducible refine s_dput ?_
  | with_reducible refine s_fld ?_
  | with_reducible refine s_fldS ?_
  | with_reducible refine s_me ?_
  | with_reducible refine s_gown ?_
  | with_reducible refine s_try ?_
  | with_reducible refine s_bm ?_
  | with_reducible refine s_forL ?_
  | with_reducible refine s_forT ?_
  | with_reducible refine s_forR ?_
  | with_reducible refine s_forR2 ?_
  | with_reducible refine s_lc0 ?_
  | with_reducible refine s_ifbT rfl ?_
  | with_reducible refine s_ifbF rfl ?_
  | ((with_reducible refine' s_isT ?sda ?_); (case sda => walk_at "ty"))
  | ((with_reducible refine' s_ixl ?sda ?sdb ?_); (case sda => walk_at "lk"); (case sdb => walk_at "at"))
  | ((with_reducible refine' s_ixt ?sda ?sdb ?_); (case sda => walk_at "lk"); (case sdb => walk_at "at"))
  | ((with_reducible refine' s_lenl ?sda ?_); (case sda => walk_at "lk"))
  | ((with_reducible refine' s_lent ?sda ?_); (case sda => walk_at "lk"))
  | ((with_reducible refine' s_setl ?sda ?sdb ?_); (case sda => walk_at "lk"); (case sdb => walk_at "at"); (intro _ _ _))
  | ((with_reducible refine' s_fldv ?sda ?sdb ?sdc ?_); (case sda => walk_at "lk"); (case sdb => exact List.mem_cons_self); (case sdc => exact rfl))
  | ((with_reducible refine' s_fldSv ?sda ?sdb ?sdc ?_); (case sda => walk_at "lk"); (case sdb => exact List.mem_cons_self); (case sdc => first | decide | simp); (intro _ _ _))
  | ((with_reducible refine' s_mev ?sda ?_); (case sda => walk_at "lk"))
  | ((with_reducible refine' s_gownv ?sda ?_); (case sda => walk_at "lk"))
  | ((with_reducible refine' s_tyl ?sda ?_); (case sda => walk_at "lk"))
  | ((with_reducible refine' s_dinS ?sda ?_); (case sda => walk_at "lk"))
  | ((with_reducible refine' s_dninS ?sda ?_); (case sda => walk_at "lk"))
  | with_reducible refine s_eq rfl ?_
  | with_reducible refine s_ne rfl ?_
  | with_reducible refine s_raiseX ?_
  | with_reducible refine s_rt0 ?_)
local macro_rules | `(tactic| walk_at "ty") => `(tactic| first | exact rfl | exact ty_l (by walk_at "lk") | exact ty_t (by walk_at "lk"))
local macro_rules | `(tactic| walk_at "w") => `(tactic| repeat (walk_at "w1"))

variable {K : PySem.W.Frag}
/-! ### the store's methods -/
theorem p_S_init {W : WX} (vs : List V) (H : Hp) (Q : VK) (E : XK) (h : sp_Store___init__ K vs H Q E) : t_Store___init__ K W { nx := fun _ H' => Q .non H', rt := Q } (start N_Store___init__ vs) H := by
  obtain ⟨x, dx, rfl, hx, q⟩ := h
  show t_Store___init__ K W _ [some _] H
  unfold t_Store___init__
  walk_at "w"
  refine s_dnew fun d H1 d1 d2 d3 => ?_
  walk_at "w"
  have hx' : H1 x = some (.ins (He.ga K "Store") dx (ks_Store.zip [])) := d3 _ _ hx
  refine s_fldSv hx' List.mem_cons_self (by simp) fun H2 e1 e2 => ?_
  walk_at "w"
  exact q d H2 d1 ⟨dx, e1, e2 _ _ d2 (ne_of d2 hx' (fun z => nomatch z))⟩ (by walk_at "fr")
theorem p_S_set {W : WX} (vs : List V) (H : Hp) (Q : VK) (E : XK) (h : sp_Store___setitem__ K vs H Q E) : t_Store___setitem__ K W { nx := fun _ H' => Q .non H', rt := Q } (start N_Store___setitem__ vs) H := by
  obtain ⟨a, d, k, v, ps, rfl, ⟨dx, ha, hd⟩, hl, q⟩ := h
  show t_Store___setitem__ K W _ [some _, some _, some _] H
  unfold t_Store___setitem__
  walk_at "w"
  refine s_dpS hd (by unfold kvOf; rw [List.length_map]; omega) fun H1 e1 e2 => ?_
  walk_at "w"
  exact q H1 ⟨dx, e2 _ _ ha (ne_of ha hd (fun z => nomatch z)), by rw [e1, kv_put]⟩ e2
theorem p_S_get (vs : List V) (H : Hp) (Q : VK) (E : XK) (h : sp_Store___getitem__ K vs H Q E) : t_Store___getitem__ K (fun c d _ H => E c d H) { nx := fun _ H' => Q .non H', rt := Q } (start N_Store___getitem__ vs) H := by
  obtain ⟨a, d, k, ps, rfl, ⟨dx, ha, hd⟩, q1, q2⟩ := h
  show t_Store___getitem__ K _ _ [some _, some _] H
  unfold t_Store___getitem__
  walk_at "w"
  rw [kv_get]
  cases e : getP ps k with
  | none =>
    refine s_itt ?_
    refine s_raiseX ?_
    walk_at "w"
    exact s_rx fun d H2 h1 h2 h3 => q2 e d H2 h1 h2 h3
  | some v =>
    refine s_itf ?_
    walk_at "w"
    refine s_dgS hd (by rw [kv_get, e]; rfl) (q1 v e)
theorem p_S_in {W : WX} (vs : List V) (H : Hp) (Q : VK) (E : XK) (h : sp_Store___contains__ K vs H Q E) : t_Store___contains__ K W { nx := fun _ H' => Q .non H', rt := Q } (start N_Store___contains__ vs) H := by
  obtain ⟨a, d, k, ps, rfl, ⟨dx, ha, hd⟩, q⟩ := h
  show t_Store___contains__ K W _ [some _, some _] H
  unfold t_Store___contains__
  walk_at "w"
  rw [kv_get, Option.isSome_map]
  exact q
theorem p_S_len {W : WX} (vs : List V) (H : Hp) (Q : VK) (E : XK) (h : sp_Store___len__ K vs H Q E) : t_Store___len__ K W { nx := fun _ H' => Q .non H', rt := Q } (start N_Store___len__ vs) H := by
  obtain ⟨a, dx, d, kvs, rfl, ha, hd, q⟩ := h
  show t_Store___len__ K W _ [some _] H
  unfold t_Store___len__
  walk_at "w"
  exact ⟨d, kvs, rfl, hd, q⟩
theorem p_S_iter {W : WX} (vs : List V) (H : Hp) (Q : VK) (E : XK) (h : sp_Store___iter__ K vs H Q E) : t_Store___iter__ K W { nx := fun _ H' => Q .non H', rt := Q } (start N_Store___iter__ vs) H := by
  obtain ⟨a, dx, d, od, kvs, rfl, ha, hd, q⟩ := h
  show t_Store___iter__ K W _ [some _] H
  unfold t_Store___iter__ tItemsV
  walk_at "w"
  refine ⟨d, od, kvs, rfl, hd, fun v hv => ?_⟩
  walk_at "w"
  have s1 : Same H (upd H v (VwO d v)) := fun b o e => by rw [upd_ne (ne_of_none e hv)]; exact e
  refine ⟨v, d, od, kvs, rfl, upd_same, s1 _ _ hd, fun it hn hm => ?_⟩
  have s2 : Same (upd H v (VwO d v)) (upd (upd H v (VwO d v)) it (IiO od d it)) := fun b o e => by rw [upd_ne (ne_of_none e hn)]; exact e
  refine q it _ (none_of s1 hn) (by walk_at "fr") upd_same fun b o e => ?_
  by_cases hb : b = it
  · exact Nat.le_of_eq hb
  · rw [upd_ne hb] at e
    exact Nat.le_of_lt (hm b o e)
theorem dvl_pairs {H : Hp} : ∀ {ts : List Addr} {ps : List (Str × Int)}, Paired (fun (t : Addr) (q : Key × V) => H t = some (.tup [kV q.1, q.2])) ts (kvOf ps) → DvL H (rowsD ps) (ts.map V.ref)
  | [], [], _ => by simp [rowsD, DvL]
  | t :: ts, p :: ps, h => by
    cases h with
    | cons h1 h2 =>
      refine ⟨V.ref t, ts.map V.ref, rfl, ?_, dvl_pairs h2⟩
      refine ⟨t, _, rfl, by simp, h1, ?_⟩
      simp [DvL, Dv, kV]
  | [], _ :: _, h => by cases h
  | _ :: _, [], h => by cases h
theorem p_S_rows {W : WX} (vs : List V) (H : Hp) (Q : VK) (E : XK) (h : sp_Store_rows K vs H Q E) : t_Store_rows K W { nx := fun _ H' => Q .non H', rt := Q } (start N_Store_rows vs) H := by
  obtain ⟨a, d, ps, rfl, ⟨dx, ha, hd⟩, q⟩ := h
  show t_Store_rows K W _ [some _] H
  unfold t_Store_rows LiI.tListItems
  walk_at "w"
  exact ⟨d, _, rfl, hd, fun H' p ts s1 h1 h2 h3 h4 h5 => q p H' s1 h1 ⟨_, h4, dvl_pairs h5⟩⟩
end L51


set_option maxHeartbeats 4000000
namespace L51
open PySem PySem.Spec PyProof.Rows L2 U

local macro_rules | `(tactic| walk_at "lk") => `(tactic| first
  | assumption
  | exact upd_same
  | (refine same_get (by assumption) ?_; walk_at "lk")
  | (refine ext_get (by assumption) ?_ ?_; (walk_at "lk"); (walk_at "ne")))
local macro_rules | `(tactic| walk_at "ne") => `(tactic| first
  | assumption
  | (refine Ne.symm ?_; assumption)
  | exact ne_of_none (by walk_at "lk") (by assumption)
  | exact Ne.symm (ne_of_none (by walk_at "lk") (by assumption)))
local macro_rules | `(tactic| walk_at "fr") => `(tactic| first
  | exact Ext.refl
  | exact Same.refl _
  | assumption
  | (refine Ext.trans ?_ (by assumption); walk_at "fr")
  | (refine Ext.trans ?_ (Ext.of (by assumption)); walk_at "fr")
  | (refine Same.trans ?_ (by assumption); walk_at "fr"))
local macro_rules | `(tactic| walk_at "sd") => `(tactic| first
  | assumption
  | decide
  | omega
  | exact Or.inr ⟨by decide, by decide⟩
  | exact ⟨by decide, by decide, by decide⟩
  | exact ⟨by walk_at "sd", by walk_at "sd"⟩)
local macro_rules | `(tactic| walk_at "at") => `(tactic| first | exact rfl | assumption)
local macro_rules | `(tactic| walk_at "w1") => `(tactic| first
  | with_reducible refine s_var rfl ?_
  | with_reducible refine s_c ?_
  | with_reducible refine s_op ?_
  | with_reducible refine s_cons ?_
  | with_reducible refine s_nil ?_
  | with_reducible refine s_cb ?_
  | with_reducible refine s_i0 ?_
  | with_reducible refine s_eqI ?_
  | with_reducible refine s_seq ?_
  | with_reducible refine s_asg ?_
  | with_reducible refine s_gname ?_
  | with_reducible refine s_int ?_
  | ((with_reducible refine' s_ic ?sda ?_); (case sda => walk_at "sd"))
  | with_reducible refine s_ret ?_
  | with_reducible refine s_if ?_
  | with_reducible refine s_test ?_
  | with_reducible refine s_bl ?_
  | with_reducible refine s_nx ?_
  | with_reducible refine s_rt ?_
  | with_reducible refine s_drop ?_
  | with_reducible refine s_next ?_
  | with_reducible refine s_call ?_
  | with_reducible refine s_lst ?_
  | with_reducible refine s_tup ?_
  | with_reducible refine s_sub ?_
  | with_reducible refine s_itt ?_
  | with_reducible refine s_itf ?_
  | with_reducible refine s_and ?_
  | with_reducible refine s_or ?_
  | with_reducible refine s_notT ?_
  | with_reducible refine s_tb ?_
  | with_reducible refine s_rb ?_
  | with_reducible refine s_notV ?_
  | with_reducible refine s_andV ?_
  | with_reducible refine s_orV ?_
  | with_reducible refine s_ifE ?_
  | with_reducible refine s_isN ?_
  | with_reducible refine s_notN ?_
  | with_reducible refine s_dget ?_
  | with_reducible refine s_din ?_
  | with_reducible refine s_dnin ?_
  | with_reducible refine s_dput ?_
  | with_reducible refine s_fld ?_
  | with_reducible refine s_fldS ?_
  | with_reducible refine s_me ?_
  | with_reducible refine s_gown ?_
  | with_reducible refine s_try ?_
  | with_reducible refine s_bm ?_
  | with_reducible refine s_forL ?_
  | with_reducible refine s_forT ?_
  | with_reducible refine s_forR ?_
  | with_reducible refine s_forR2 ?_
  | with_reducible refine s_lc0 ?_
  | with_reducible refine s_ifbT rfl ?_
  | with_reducible refine s_ifbF rfl ?_
  | ((with_reducible refine' s_isT ?sda ?_); (case sda => walk_at "ty"))
  | ((with_reducible refine' s_ixl ?sda ?sdb ?_); (case sda => walk_at "lk"); (case sdb => walk_at "at"))
  | ((with_reducible refine' s_ixt ?sda ?sdb ?_); (case sda => walk_at "lk"); (case sdb => walk_at "at"))
  | ((with_reducible refine' s_lenl ?sda ?_); (case sda => walk_at "lk"))
  | ((with_reducible refine' s_lent ?sda ?_); (case sda => walk_at "lk"))
  | ((with_reducible refine' s_setl ?sda ?sdb ?_); (case sda => walk_at "lk"); (case sdb => walk_at "at"); (intro _ _ _))
  | ((with_reducible refine' s_fldv ?sda ?sdb ?sdc ?_); (case sda => walk_at "lk"); (case sdb => exact List.mem_cons_self); (case sdc => exact rfl))
  | ((with_reducible refine' s_fldSv ?sda ?sdb ?sdc ?_); (case sda => walk_at "lk"); (case sdb => exact List.mem_cons_self); (case sdc => first | decide | simp); (intro _ _ _))
  | ((with_reducible refine' s_mev ?sda ?_); (case sda => walk_at "lk"))
  | ((with_reducible refine' s_gownv ?sda ?_); (case sda => walk_at "lk"))
  | ((with_reducible refine' s_tyl ?sda ?_); (case sda => walk_at "lk"))
  | ((with_reducible refine' s_dinS ?sda ?_); (case sda => walk_at "lk"))
  | ((with_reducible refine' s_dninS ?sda ?_); (case sda => walk_at "lk"))
  | with_reducible refine s_eq rfl ?_
  | with_reducible refine s_ne rfl ?_
  | with_reducible refine s_raiseX ?_
  | with_reducible refine s_rt0 ?_)
local macro_rules | `(tactic| walk_at "ty") => `(tactic| first | exact rfl | exact ty_l (by walk_at "lk") | exact ty_t (by walk_at "lk"))
local macro_rules | `(tactic| walk_at "w") => `(tactic| repeat (walk_at "w1"))

variable {K : PySem.W.Frag}
theorem dvl_ext {H : Hp} : ∀ {ds es : List Dat} {xs ys : List V}, DvL H ds xs → DvL H es ys → (∀ (i : Nat) (d e : Dat), ds[i]? = some d → es[i]? = some e → d = e) → ds.length = es.length → ds = es := by
  intro ds
  induction ds with
  | nil => intro es xs ys _ _ _ h; exact (List.length_eq_zero_iff.mp h.symm).symm
  | cons d ds ih =>
    intro es xs ys h1 h2 h3 h4
    cases es with
    | nil => cases h4
    | cons e es =>
      simp only [DvL] at h1 h2
      obtain ⟨y, xs', rfl, a1, a2⟩ := h1
      obtain ⟨z, ys', rfl, b1, b2⟩ := h2
      have e1 := h3 0 d e rfl rfl
      rw [e1, ih a2 b2 (fun i d e x y => h3 (i + 1) d e (by simpa using x) (by simpa using y)) (by simpa using h4)]
/-- the loop over two sequences -/
theorem same_loop {n : Nat} {W : WX} {sr : Sp} (hsr : ∀ m, m + 1 ≤ n → ∀ vs H Q E, sp__law_same m vs H Q E → sr vs H Q E) {x y : V} {xs ys : List V} {ds es : List Dat} {H : Hp} {Q : VK}
    (hx : DvL H ds xs) (hy : DvL H es ys) (hl : ds.length = es.length) (h6 : xs.length ≤ 1000000) (dd : Dat.depL ds + 1 ≤ n) (de : Dat.depL es + 1 ≤ n)
    (ix : ∀ (i : Nat) (v : V) (Q : VK), xs[i]? = some v → Q v H → rIxLT K x (.int (0 + (i : Nat))) H Q) (iy : ∀ (i : Nat) (v : V) (Q : VK), ys[i]? = some v → Q v H → rIxLT K y (.int (0 + (i : Nat))) H Q)
    (qn : ∀ Q : VK, Q (.int xs.length) H → qLen K [x] H Q) {a b : Option V} (q : ∀ b : Bool, (b = true ↔ ds = es) → Q (.bl b) H) :
    (tSeq (tFor (iRng1 (tCons (tCB (qLen K) (tCons (tVar 0) tNil)) tNil)) (gName 3) (tIfS (tNot (tB (tCallS sr (WE W) (tCons (tOp (rIxLT K) (tVar 0) (tVar 3)) (tCons (tOp (rIxLT K) (tVar 1) (tVar 3)) tNil))))) (tRet (tC (.bl false))) tNext))
    (tRet (tC (.bl true)))) { nx := fun _ H' => Q .non H', rt := Q } [some x, some y, a, b] H := by
  refine s_seq ?_
  walk_at "w"
  refine qn _ ?_
  walk_at "w"
  have lx := hx.length
  have ly := hy.length
  refine s_forR1 (by omega) (by omega) (fun i σ H' => H' = H ∧ (∃ o, σ = [some x, some y, a, o]) ∧ ∀ (j : Nat) (d e : Dat), j < i → ds[j]? = some d → es[j]? = some e → d = e) ⟨rfl, ⟨b, rfl⟩, fun j d e h => absurd h (Nat.not_lt_zero _)⟩ ?_ ?_
  · rintro i σ H' hi ⟨rfl, ⟨o, rfl⟩, hp⟩
    rw [Int.toNat_natCast] at hi
    obtain ⟨d, hd⟩ : ∃ d, ds[i]? = some d := ⟨ds[i], List.getElem?_eq_getElem (by omega)⟩
    obtain ⟨e, he⟩ : ∃ e, es[i]? = some e := ⟨es[i], List.getElem?_eq_getElem (by omega)⟩
    obtain ⟨v, hv, rv⟩ := hx.get hd
    obtain ⟨w, hw, rw_⟩ := hy.get he
    walk_at "w"
    refine ix i v _ hv ?_
    walk_at "w"
    refine iy i w _ hw ?_
    walk_at "w"
    have n1 : n - 1 + 1 = n := by omega
    refine hsr (n - 1) (by omega) _ _ _ _ ⟨v, w, d, e, rfl, rv, rw_, ?_, ?_, fun c hc => ?_⟩
    · have := Dat.depL_mem (List.mem_of_getElem? hd); omega
    · have := Dat.depL_mem (List.mem_of_getElem? he); omega
    walk_at "w"
    cases c with
    | false =>
      walk_at "w"
      refine q false ⟨fun h => (nomatch h), fun h => ?_⟩
      have : d = e := by rw [h] at hd; exact Option.some.inj (hd.symm.trans he)
      exact absurd (hc.mpr this) (by simp)
    | true =>
      walk_at "w"
      refine ⟨rfl, ⟨_, rfl⟩, fun j d' e' hj h1 h2 => ?_⟩
      rcases Nat.lt_or_eq_of_le (Nat.le_of_lt_succ hj) with z | z
      · exact hp j d' e' z h1 h2
      · subst z
        rw [hd] at h1; rw [he] at h2
        cases h1; cases h2
        exact hc.mp rfl
  · rintro σ H' ⟨rfl, ⟨o, rfl⟩, hp⟩
    rw [Int.toNat_natCast] at hp
    walk_at "w"
    exact q true ⟨fun _ => dvl_ext hx hy (fun i d e h1 h2 => hp i d e (by rw [lx]; exact (List.getElem?_eq_some_iff.mp h1).1) h1 h2) hl, fun _ => rfl⟩
theorem p_same (n : Nat) {W : WX} {sr : Sp} (hsr : ∀ m, m + 1 ≤ n → ∀ vs H Q E, sp__law_same m vs H Q E → sr vs H Q E) (vs : List V) (H : Hp) (Q : VK) (E : XK) (h : sp__law_same n vs H Q E) : t__law_same K W sr { nx := fun _ H' => Q .non H', rt := Q } (start N__law_same vs) H := by
  obtain ⟨x, y, d, e, rfl, hx, hy, dd, de, q⟩ := h
  show t__law_same K W sr _ [some _, some _, none, none] H
  unfold t__law_same
  cases d <;> cases e <;> simp only [Dv] at hx hy
  case lst.lst ds es =>
    obtain ⟨p, xs, rfl, z1, z2, z3⟩ := hx
    obtain ⟨p', ys, rfl, y1, y2, y3⟩ := hy
    have lx := z3.length
    have ly := y3.length
    walk_at "w"
    refine s_if2 (fun c => ?_) (fun c => ?_)
    · walk_at "w"
      refine q false ⟨fun h => (nomatch h), fun h => ?_⟩
      cases h
      simp at c
      omega
    · have hl : ds.length = es.length := by simp at c; omega
      refine s_next (s_nx ?_)
      exact same_loop (Q := Q) hsr z3 y3 hl z1 (by simpa [Dat.dep] using dd) (by simpa [Dat.dep] using de) (fun i v Q h q => s_ixltL z2 (atI_nat' h) q) (fun i v Q h q => s_ixltL y2 (atI_nat' h) q) (fun Q q => s_lenl z2 q) fun b hb => q b (by rw [hb]; simp)
  case tup.tup ds es =>
    obtain ⟨p, xs, rfl, z1, z2, z3⟩ := hx
    obtain ⟨p', ys, rfl, y1, y2, y3⟩ := hy
    have lx := z3.length
    have ly := y3.length
    walk_at "w"
    refine s_if2 (fun c => ?_) (fun c => ?_)
    · walk_at "w"
      refine q false ⟨fun h => (nomatch h), fun h => ?_⟩
      cases h
      simp at c
      omega
    · have hl : ds.length = es.length := by simp at c; omega
      refine s_next (s_nx ?_)
      exact same_loop (Q := Q) hsr z3 y3 hl z1 (by simpa [Dat.dep] using dd) (by simpa [Dat.dep] using de) (fun i v Q h q => s_ixltT z2 (atI_nat' h) q) (fun i v Q h q => s_ixltT y2 (atI_nat' h) q) (fun Q q => s_lent z2 q) fun b hb => q b (by rw [hb]; simp)
  all_goals
    (try (obtain ⟨p, xs, rfl, z1, z2, z3⟩ := hx))
    (try (obtain ⟨p', ys, rfl, y1, y2, y3⟩ := hy))
    (try subst hx)
    (try subst hy)
    walk_at "w"
    refine q _ ?_
    simp
end L51


set_option maxHeartbeats 4000000
namespace L51
open PySem PySem.Spec PyProof.Rows L2 U

local macro_rules | `(tactic| walk_at "lk") => `(tactic| first
  | assumption
  | exact upd_same
  | (refine same_get (by assumption) ?_; walk_at "lk")
  | (refine ext_get (by assumption) ?_ ?_; (walk_at "lk"); (walk_at "ne")))
local macro_rules | `(tactic| walk_at "ne") => `(tactic| first
  | assumption
  | (refine Ne.symm ?_; assumption)
  | exact ne_of_none (by walk_at "lk") (by assumption)
  | exact Ne.symm (ne_of_none (by walk_at "lk") (by assumption)))
local macro_rules | `(tactic| walk_at "fr") => `(tactic| first
  | exact Ext.refl
  | exact Same.refl _
  | assumption
  | (refine Ext.trans ?_ (by assumption); walk_at "fr")
  | (refine Ext.trans ?_ (Ext.of (by assumption)); walk_at "fr")
  | (refine Same.trans ?_ (by assumption); walk_at "fr"))
local macro_rules | `(tactic| walk_at "sd") => `(tactic| first
  | assumption
  | decide
  | omega
  | exact Or.inr ⟨by decide, by decide⟩
  | exact ⟨by decide, by decide, by decide⟩
  | exact ⟨by walk_at "sd", by walk_at "sd"⟩)
local macro_rules | `(tactic| walk_at "at") => `(tactic| first | exact rfl | assumption)
local macro_rules | `(tactic| walk_at "w1") => `(tactic| first
  | with_reducible refine s_var rfl ?_
  | with_reducible refine s_c ?_
  | with_reducible refine s_op ?_
  | with_reducible refine s_cons ?_
  | with_reducible refine s_nil ?_
  | with_reducible refine s_cb ?_
  | with_reducible refine s_i0 ?_
  | with_reducible refine s_eqI ?_
  | with_reducible refine s_seq ?_
  | with_reducible refine s_asg ?_
  | with_reducible refine s_gname ?_
  | with_reducible refine s_int ?_
  | ((with_reducible refine' s_ic ?sda ?_); (case sda => walk_at "sd"))
  | with_reducible refine s_ret ?_
  | with_reducible refine s_if ?_
  | with_reducible refine s_test ?_
  | with_reducible refine s_bl ?_
  | with_reducible refine s_nx ?_
  | with_reducible refine s_rt ?_
  | with_reducible refine s_drop ?_
  | with_reducible refine s_next ?_
  | with_reducible refine s_call ?_
  | with_reducible refine s_lst ?_
  | with_reducible refine s_tup ?_
  | with_reducible refine s_sub ?_
  | with_reducible refine s_itt ?_
  | with_reducible refine s_itf ?_
  | with_reducible refine s_and ?_
  | with_reducible refine s_or ?_
  | with_reducible refine s_notT ?_
  | with_reducible refine s_tb ?_
  | with_reducible refine s_rb ?_
  | with_reducible refine s_notV ?_
  | with_reducible refine s_andV ?_
  | with_reducible refine s_orV ?_
  | with_reducible refine s_ifE ?_
  | with_reducible refine s_isN ?_
  | with_reducible refine s_notN ?_
  | with_reducible refine s_dget ?_
  | with_reducible refine s_din ?_
  | with_reducible refine s_dnin ?_
  | with_reducible refine s_dput ?_
  | with_reducible refine s_fld ?_
  | with_reducible refine s_fldS ?_
  | with_reducible refine s_me ?_
  | with_reducible refine s_gown ?_
  | with_reducible refine s_try ?_
  | with_reducible refine s_bm ?_
  | with_reducible refine s_forL ?_
  | with_reducible refine s_forT ?_
  | with_reducible refine s_forR ?_
  | with_reducible refine s_forR2 ?_
  | with_reducible refine s_lc0 ?_
  | with_reducible refine s_ifbT rfl ?_
  | with_reducible refine s_ifbF rfl ?_
  | ((with_reducible refine' s_isT ?sda ?_); (case sda => walk_at "ty"))
  | ((with_reducible refine' s_ixl ?sda ?sdb ?_); (case sda => walk_at "lk"); (case sdb => walk_at "at"))
  | ((with_reducible refine' s_ixt ?sda ?sdb ?_); (case sda => walk_at "lk"); (case sdb => walk_at "at"))
  | ((with_reducible refine' s_lenl ?sda ?_); (case sda => walk_at "lk"))
  | ((with_reducible refine' s_lent ?sda ?_); (case sda => walk_at "lk"))
  | ((with_reducible refine' s_setl ?sda ?sdb ?_); (case sda => walk_at "lk"); (case sdb => walk_at "at"); (intro _ _ _))
  | ((with_reducible refine' s_fldv ?sda ?sdb ?sdc ?_); (case sda => walk_at "lk"); (case sdb => exact List.mem_cons_self); (case sdc => exact rfl))
  | ((with_reducible refine' s_fldSv ?sda ?sdb ?sdc ?_); (case sda => walk_at "lk"); (case sdb => exact List.mem_cons_self); (case sdc => first | decide | simp); (intro _ _ _))
  | ((with_reducible refine' s_mev ?sda ?_); (case sda => walk_at "lk"))
  | ((with_reducible refine' s_gownv ?sda ?_); (case sda => walk_at "lk"))
  | ((with_reducible refine' s_tyl ?sda ?_); (case sda => walk_at "lk"))
  | ((with_reducible refine' s_dinS ?sda ?_); (case sda => walk_at "lk"))
  | ((with_reducible refine' s_dninS ?sda ?_); (case sda => walk_at "lk"))
  | with_reducible refine s_eq rfl ?_
  | with_reducible refine s_ne rfl ?_
  | with_reducible refine s_raiseX ?_
  | with_reducible refine s_rt0 ?_)
local macro_rules | `(tactic| walk_at "ty") => `(tactic| first | exact rfl | exact ty_l (by walk_at "lk") | exact ty_t (by walk_at "lk"))
local macro_rules | `(tactic| walk_at "w") => `(tactic| repeat (walk_at "w1"))

variable {K : PySem.W.Frag}
theorem atI_some {α : Type} {xs : List α} {i : Int} (h0 : 0 ≤ i) (h : i < xs.length) : ∃ c, atI xs i = some c := by
  unfold atI ixN
  rw [if_pos h0, if_pos h]
  exact ⟨xs[i.toNat]'(by omega), List.getElem?_eq_getElem (by omega)⟩
theorem log_small {i : Int} (h0 : 0 ≤ i) (h : i ≤ 1000) : i.natAbs.log2 < 9000 := Nat.lt_of_le_of_lt (Nat.log2_le_self _) (by omega)
theorem abc_ok : ("abcdefghijklmnopqrstuvwxyz" : Str).length = 26 ∧ ("abcdefghijklmnopqrstuvwxyz" : Str).cps.toList.length = 26 := by decide +kernel
theorem sz26 : 26 ≤ sizeLine := by rw [sizeLine_eq]; decide
theorem sz9 : 9 ≤ sizeLine := by rw [sizeLine_eq]; decide
theorem p_word {W : WX} (vs : List V) (H : Hp) (Q : VK) (E : XK) (h : sp__law_word K vs H Q E) : t__law_word K W { nx := fun _ H' => Q .non H', rt := Q } (start N__law_word vs) H := by
  obtain ⟨s, l, rfl, hs, q⟩ := h
  show t__law_word K W _ [some _, none, none, none, none, none, none, none] H
  unfold t__law_word
  obtain ⟨abc_len, abc_size⟩ := abc_ok
  generalize ("abcdefghijklmnopqrstuvwxyz" : Str) = abc at abc_len abc_size ⊢
  walk_at "w"
  refine u_draw hs (by decide) (by decide) fun r1 H1 a1 b1 s1 e1 => ?_
  walk_at "w"
  refine u_draw s1 (by decide) (by decide) fun r2 H2 a2 b2 s2 e2 => ?_
  walk_at "w"
  refine u_draw s2 (by decide) (by decide) fun r3 H3 a3 b3 s3 e3 => ?_
  obtain ⟨c, hc⟩ := atI_some (xs := abc.cps.toList) a3 (by rw [abc_size]; omega)
  refine s_idx (by rw [abc_len]; exact sz26) hc ?_
  walk_at "w"
  refine u_draw s3 (by omega) (log_small (by omega) (by omega)) fun r4 H4 a4 b4 s4 e4 => ?_
  walk_at "w"
  refine s_forR1 (by omega) (by omega) (fun i σ H' => ∃ (z : Str) (o : Option V), σ = [some (.ref s), some (.str abc), some (.int (1 + r1)), some (.int r2), some (.str ⟨#[c]⟩), some (.int r4), some (.str z), o] ∧ z.length ≤ i ∧ StAt H' s l ∧ Ext s H H') ⟨_, _, rfl, Nat.le_refl _, s4, by walk_at "fr"⟩ ?_ ?_
  · rintro i σ H' hi ⟨z, o, rfl, hz, hs', ex⟩
    have lz : z.length ≤ 8 := by omega
    walk_at "w"
    have c1 : ∀ d : Nat, (⟨#[d]⟩ : Str).length = 1 := fun _ => rfl
    have br1 : ∀ (u : L2.St → Hp → Prop) (a' : VK) (b' c'' : L2.St → Hp → Prop), (∀ σ H'', (∃ (z : Str) (o : Option V), σ = [some (.ref s), some (.str abc), some (.int (1 + r1)), some (.int r2), some (.str ⟨#[c]⟩), some (.int r4), some (.str z), o] ∧ z.length ≤ i + 1 ∧ StAt H'' s l ∧ Ext s H H'') → u σ H'') → tAsg (tOp qAddS (tVar 6) (tOp rIxS (tVar 1) (tCallS (sp__law_draw K) (WE W) (tCons (tVar 0) (tCons (tC (.int 26)) tNil))))) (gName 6) (Ends.mk u a' b' c'') [some (.ref s), some (.str abc), some (.int (1 + r1)), some (.int r2), some (.str ⟨#[c]⟩), some (.int r4), some (.str z), some (.int (0 + i))] H' := by
      intro u a' b' c'' k
      walk_at "w"
      refine u_draw hs' (by decide) (by decide) fun r5 H5 a5 b5 s5 e5 => ?_
      obtain ⟨c', hc'⟩ := atI_some (xs := abc.cps.toList) a5 (by rw [abc_size]; omega)
      refine s_idx (by rw [abc_len]; exact sz26) hc' ?_
      refine s_adds (Nat.le_trans (show z.length + (⟨#[c']⟩ : Str).length ≤ 9 by rw [c1]; omega) sz9) ?_
      walk_at "w"
      exact k _ _ ⟨_, _, rfl, by rw [Str.length_append, c1]; omega, s5, by walk_at "fr"⟩
    have br2 : ∀ (u : L2.St → Hp → Prop) (a' : VK) (b' c'' : L2.St → Hp → Prop), (∀ σ H'', (∃ (z : Str) (o : Option V), σ = [some (.ref s), some (.str abc), some (.int (1 + r1)), some (.int r2), some (.str ⟨#[c]⟩), some (.int r4), some (.str z), o] ∧ z.length ≤ i + 1 ∧ StAt H'' s l ∧ Ext s H H'') → u σ H'') → tAsg (tOp qAddS (tVar 6) (tVar 4)) (gName 6) (Ends.mk u a' b' c'') [some (.ref s), some (.str abc), some (.int (1 + r1)), some (.int r2), some (.str ⟨#[c]⟩), some (.int r4), some (.str z), some (.int (0 + i))] H' := by
      intro u a' b' c'' k
      walk_at "w"
      refine s_adds (Nat.le_trans (show z.length + (⟨#[c]⟩ : Str).length ≤ 9 by rw [c1]; omega) sz9) ?_
      walk_at "w"
      exact k _ _ ⟨_, _, rfl, by rw [Str.length_append, c1]; omega, hs', ex⟩
    refine s_ite (fun c1 => ?_) (fun c1 => ?_)
    · refine s_itt (br1 _ _ _ _ fun σ H'' z => z)
    · walk_at "w"
      refine s_ite (fun c2 => ?_) (fun c2 => ?_)
      · exact br1 _ _ _ _ fun σ H'' z => z
      · exact br2 _ _ _ _ fun σ H'' z => z
  · rintro σ H' ⟨z, o, rfl, hz, hs', ex⟩
    walk_at "w"
    exact q z H' hs' ex
end L51


set_option maxHeartbeats 4000000
namespace L51
open PySem PySem.Spec PyProof.Rows L2 U

local macro_rules | `(tactic| walk_at "lk") => `(tactic| first
  | assumption
  | exact upd_same
  | (refine same_get (by assumption) ?_; walk_at "lk")
  | (refine ext_get (by assumption) ?_ ?_; (walk_at "lk"); (walk_at "ne")))
local macro_rules | `(tactic| walk_at "ne") => `(tactic| first
  | assumption
  | (refine Ne.symm ?_; assumption)
  | exact ne_of_none (by walk_at "lk") (by assumption)
  | exact Ne.symm (ne_of_none (by walk_at "lk") (by assumption)))
local macro_rules | `(tactic| walk_at "fr") => `(tactic| first
  | exact Ext.refl
  | exact Same.refl _
  | assumption
  | (refine Ext.trans ?_ (by assumption); walk_at "fr")
  | (refine Ext.trans ?_ (Ext.of (by assumption)); walk_at "fr")
  | (refine Same.trans ?_ (by assumption); walk_at "fr"))
local macro_rules | `(tactic| walk_at "sd") => `(tactic| first
  | assumption
  | decide
  | omega
  | exact Or.inr ⟨by decide, by decide⟩
  | exact ⟨by decide, by decide, by decide⟩
  | exact ⟨by walk_at "sd", by walk_at "sd"⟩)
local macro_rules | `(tactic| walk_at "at") => `(tactic| first | exact rfl | assumption)
local macro_rules | `(tactic| walk_at "w1") => `(tactic| first
  | with_reducible refine s_var rfl ?_
  | with_reducible refine s_c ?_
  | with_reducible refine s_op ?_
  | with_reducible refine s_cons ?_
  | with_reducible refine s_nil ?_
  | with_reducible refine s_cb ?_
  | with_reducible refine s_i0 ?_
  | with_reducible refine s_eqI ?_
  | with_reducible refine s_seq ?_
  | with_reducible refine s_asg ?_
  | with_reducible refine s_gname ?_
  | with_reducible refine s_int ?_
  | ((with_reducible refine' s_ic ?sda ?_); (case sda => walk_at "sd"))
  | with_reducible refine s_ret ?_
  | with_reducible refine s_if ?_
  | with_reducible refine s_test ?_
  | with_reducible refine s_bl ?_
  | with_reducible refine s_nx ?_
  | with_reducible refine s_rt ?_
  | with_reducible refine s_drop ?_
  | with_reducible refine s_next ?_
  | with_reducible refine s_call ?_
  | with_reducible refine s_lst ?_
  | with_reducible refine s_tup ?_
  | with_reducible refine s_sub ?_
  | with_reducible refine s_itt ?_
  | with_reducible refine s_itf ?_
  | with_reducible refine s_and ?_
  | with_reducible refine s_or ?_
  | with_reducible refine s_notT ?_
  | with_reducible refine s_tb ?_
  | with_reducible refine s_rb ?_
  | with_reducible refine s_notV ?_
  | with_reducible refine s_andV ?_
  | with_reducible refine s_orV ?_
  | with_reducible refine s_ifE ?_
  | with_reducible refine s_isN ?_
  | with_reducible refine s_notN ?_
  | with_reducible refine s_dget ?_
  | with_reducible refine s_din ?_
  | with_reducible refine s_dnin ?_
  | with_reducible refine s_dput ?_
  | with_reducible refine s_fld ?_
  | with_reducible refine s_fldS ?_
  | with_reducible refine s_me ?_
  | with_reducible refine s_gown ?_
  | with_reducible refine s_try ?_
  | with_reducible refine s_bm ?_
  | with_reducible refine s_forL ?_
  | with_reducible refine s_forT ?_
  | with_reducible refine s_forR ?_
  | with_reducible refine s_forR2 ?_
  | with_reducible refine s_lc0 ?_
  | with_reducible refine s_ifbT rfl ?_
  | with_reducible refine s_ifbF rfl ?_
  | ((with_reducible refine' s_isT ?sda ?_); (case sda => walk_at "ty"))
  | ((with_reducible refine' s_ixl ?sda ?sdb ?_); (case sda => walk_at "lk"); (case sdb => walk_at "at"))
  | ((with_reducible refine' s_ixt ?sda ?sdb ?_); (case sda => walk_at "lk"); (case sdb => walk_at "at"))
  | ((with_reducible refine' s_lenl ?sda ?_); (case sda => walk_at "lk"))
  | ((with_reducible refine' s_lent ?sda ?_); (case sda => walk_at "lk"))
  | ((with_reducible refine' s_setl ?sda ?sdb ?_); (case sda => walk_at "lk"); (case sdb => walk_at "at"); (intro _ _ _))
  | ((with_reducible refine' s_fldv ?sda ?sdb ?sdc ?_); (case sda => walk_at "lk"); (case sdb => exact List.mem_cons_self); (case sdc => exact rfl))
  | ((with_reducible refine' s_fldSv ?sda ?sdb ?sdc ?_); (case sda => walk_at "lk"); (case sdb => exact List.mem_cons_self); (case sdc => first | decide | simp); (intro _ _ _))
  | ((with_reducible refine' s_mev ?sda ?_); (case sda => walk_at "lk"))
  | ((with_reducible refine' s_gownv ?sda ?_); (case sda => walk_at "lk"))
  | ((with_reducible refine' s_tyl ?sda ?_); (case sda => walk_at "lk"))
  | ((with_reducible refine' s_dinS ?sda ?_); (case sda => walk_at "lk"))
  | ((with_reducible refine' s_dninS ?sda ?_); (case sda => walk_at "lk"))
  | with_reducible refine s_eq rfl ?_
  | with_reducible refine s_ne rfl ?_
  | with_reducible refine s_raiseX ?_
  | with_reducible refine s_rt0 ?_)
local macro_rules | `(tactic| walk_at "ty") => `(tactic| first | exact rfl | exact ty_l (by walk_at "lk") | exact ty_t (by walk_at "lk"))
local macro_rules | `(tactic| walk_at "w") => `(tactic| repeat (walk_at "w1"))

variable {K : PySem.W.Frag}
/-! ### rows -/
theorem rows_get {H : Hp} : ∀ {ps : List (Str × Int)} {xs : List V} {i : Nat} {x : V}, DvL H (rowsD ps) xs → xs[i]? = some x → ∃ p t, ps[i]? = some p ∧ x = .ref t ∧ H t = some (.tup [.str p.1, .int p.2])
  | [], xs, i, x, h, hx => by
    simp only [rowsD, List.map_nil, DvL] at h
    subst h
    simp at hx
  | p :: ps, xs, i, x, h, hx => by
    simp only [rowsD, List.map_cons, DvL] at h
    obtain ⟨y, ys, rfl, h1, h2⟩ := h
    cases i with
    | zero =>
      have e : y = x := by simpa using hx
      subst e
      simp only [Dv, DvL] at h1
      obtain ⟨t, zs, rfl, _, ht, a, as, rfl, rfl, b, bs, rfl, rfl, rfl⟩ := h1
      exact ⟨p, t, rfl, rfl, ht⟩
    | succ i => exact rows_get (ps := ps) (i := i) h2 (by simpa using hx)
theorem rows_len {H : Hp} {ps : List (Str × Int)} {xs : List V} (h : DvL H (rowsD ps) xs) : xs.length = ps.length := by rw [h.length]; simp [rowsD]
theorem flat_strs {α : Type} {f : α → Str} {H : Hp} : ∀ {ps : List α} {xs : List V}, DvL H (ps.map fun p => Dat.str (f p)) xs → xs = ps.map fun p => V.str (f p)
  | [], xs, h => by simpa [DvL] using h
  | p :: ps, xs, h => by
    simp only [List.map_cons, DvL, Dv] at h
    obtain ⟨y, ys, rfl, rfl, h2⟩ := h
    rw [flat_strs h2]; rfl
theorem flat_ints {α : Type} {f : α → Int} {H : Hp} : ∀ {ps : List α} {xs : List V}, DvL H (ps.map fun p => Dat.int (f p)) xs → xs = ps.map fun p => V.int (f p)
  | [], xs, h => by simpa [DvL] using h
  | p :: ps, xs, h => by
    simp only [List.map_cons, DvL, Dv] at h
    obtain ⟨y, ys, rfl, rfl, h2⟩ := h
    rw [flat_ints h2]; rfl
theorem in_keys {ps : List (Str × Int)} {k : Str} : inV (.str k) (ps.map fun p => V.str p.1) = ps.any fun p => decide (p.1 = k) := by
  unfold inV
  rw [List.any_map]
  congr 1
theorem all_flat {ps : List (Str × Int)} : (ps.map fun p => V.str p.1).all flatV = true := by
  rw [List.all_map]
  simp [flatV]
theorem p_set {W : WX} (vs : List V) (H : Hp) (Q : VK) (E : XK) (h : sp__law_set K vs H Q E) : t__law_set K W { nx := fun _ H' => Q .non H', rt := Q } (start N__law_set vs) H := by
  obtain ⟨r, k, v, ps, rfl, ⟨xs, hr, hxs⟩, hl, q⟩ := h
  show t__law_set K W _ [some _, some _, some _, none, none] H
  unfold t__law_set
  have lx := rows_len hxs
  walk_at "w"
  refine s_lcM ps (fun p => Dat.tup [.str p.1, .int (if p.1 = k then v else p.2)]) hr lx (by omega) ?_ ?_ gm_name
  · intro i p x H' D acc R1 hp hx sm hD hacc k1
    obtain ⟨p', t, hp', rfl, ht⟩ := rows_get hxs hx
    obtain rfl : p = p' := Option.some.inj (hp.symm.trans hp')
    have ht' := sm _ _ ht
    refine s_gname ⟨rfl, ?_⟩
    walk_at "w"
    have fin : ∀ j : Int, (j = if p.1 = k then v else p.2) → ([V.str p.1, V.int j].length ≤ sizeLine ∧ ∀ (q : Addr), H' q = none → R1 (.ref q) (upd H' q (.tup [.str p.1, .int j]))) := by
      intro j hj
      refine ⟨by rw [sizeLine_eq]; show 2 ≤ 16777216; decide, fun q hq => ?_⟩
      refine k1 _ _ (fun b o e => by rw [upd_ne (ne_of_none e hq)]; exact e) ?_
      rw [← hj]
      refine ⟨q, _, rfl, by simp, del_at upd_same (ne_of_none hacc hq).symm, ?_⟩
      simp [DvL, Dv]
    refine s_ite (fun c => ?_) (fun c => ?_)
    · walk_at "w"
      refine fin v ?_
      rw [if_pos (by simpa using c)]
    · walk_at "w"
      refine fin p.2 ?_
      rw [if_neg (by simpa using c)]
  · intro D H2 ys sm hD hys lys hdv
    have hr2 := sm _ _ hr
    have hxs2 := DvL.same sm hxs
    walk_at "w"
    refine s_lcM ps (fun p => Dat.str p.1) hr2 lx (by omega) ?_ ?_ gm_name
    · intro i p x H' D' acc R1 hp hx sm' hD' hacc k1
      obtain ⟨p', t, hp', rfl, ht⟩ := rows_get hxs2 hx
      obtain rfl : p = p' := Option.some.inj (hp.symm.trans hp')
      have ht' := sm' _ _ ht
      refine s_gname ⟨rfl, ?_⟩
      walk_at "w"
      exact k1 _ _ (Same.refl _) (by simp [Dv])
    · intro D' H3 zs sm' hD' hzs lzs hdz
      have ez := flat_strs hdz
      subst ez
      have hys3 := sm' _ _ hys
      refine s_in hzs rfl all_flat ?_
      walk_at "w"
      rw [in_keys]
      have hnew : H D = none := hD
      have base : DvL H3 ((ps.map fun p => Dat.tup [.str p.1, .int (if p.1 = k then v else p.2)])) ys := DvL.same sm' (DvL.same del_same hdv)
      have eq1 : (ps.map fun p => Dat.tup [.str p.1, .int (if p.1 = k then v else p.2)]) = rowsD (ps.map fun p => if p.1 = k then (p.1, v) else p) := by
        unfold rowsD
        rw [List.map_map]
        congr 1
        funext p
        by_cases hc : p.1 = k <;> simp [hc]
      cases hany : (ps.any fun p => decide (p.1 = k)) with
      | true =>
        refine s_itf ?_
        walk_at "w"
        refine q D H3 (sm.trans sm') hD ⟨ys, hys3, ?_⟩
        unfold putP
        rw [if_pos hany, ← eq1]
        exact base
      | false =>
        refine s_itt ?_
        walk_at "w"
        refine ⟨by rw [sizeLine_eq]; show 2 ≤ 16777216; decide, fun t ht => ?_⟩
        walk_at "w"
        have hD4 : upd H3 t (.tup [.str k, .int v]) D = some (.lst ys) := by rw [upd_ne (ne_of_none hys3 ht)]; exact hys3
        refine s_app hD4 (by omega) fun H5 e1 e2 => ?_
        walk_at "w"
        have s4 : Same H3 (upd H3 t (.tup [.str k, .int v])) := fun b o e => by rw [upd_ne (ne_of_none e ht)]; exact e
        refine q D H5 (same_ext hD (sm.trans (sm'.trans s4)) e2) hD ⟨_, e1, ?_⟩
        have hnone : ∀ p ∈ ps, ¬ p.1 = k := fun p hp hc => by
          have := List.any_eq_false.mp hany p hp
          exact this (by simpa using hc)
        have eq2 : (ps.map fun p => if p.1 = k then (p.1, v) else p) = ps := by
          rw [List.map_congr_left (g := id) fun p hp => by rw [if_neg (hnone p hp)]; rfl, List.map_id]
        unfold putP
        rw [if_neg (by rw [hany]; simp)]
        unfold rowsD
        rw [List.map_append]
        have neT : t ≠ D := (ne_of_none hys3 ht).symm
        have up : Same (del H2 D) (del H5 D) := fun b o e => by
          unfold del at e ⊢
          split at e
          · cases e
          · rename_i n
            rw [if_neg n]
            exact e2 _ _ (s4 _ _ (sm' _ _ e)) n
        refine DvL.same (del_same (D := D)) (DvL.snoc ?_ ?_)
        · have z := DvL.same up hdv
          rw [eq1, eq2] at z
          exact z
        · refine ⟨t, _, rfl, by simp, del_at (e2 _ _ upd_same neT) neT, ?_⟩
          simp [DvL, Dv]
end L51


set_option maxHeartbeats 4000000
namespace L51
open PySem PySem.Spec PyProof.Rows L2 U

local macro_rules | `(tactic| walk_at "lk") => `(tactic| first
  | assumption
  | exact upd_same
  | (refine same_get (by assumption) ?_; walk_at "lk")
  | (refine ext_get (by assumption) ?_ ?_; (walk_at "lk"); (walk_at "ne")))
local macro_rules | `(tactic| walk_at "ne") => `(tactic| first
  | assumption
  | (refine Ne.symm ?_; assumption)
  | exact ne_of_none (by walk_at "lk") (by assumption)
  | exact Ne.symm (ne_of_none (by walk_at "lk") (by assumption)))
local macro_rules | `(tactic| walk_at "fr") => `(tactic| first
  | exact Ext.refl
  | exact Same.refl _
  | assumption
  | (refine Ext.trans ?_ (by assumption); walk_at "fr")
  | (refine Ext.trans ?_ (Ext.of (by assumption)); walk_at "fr")
  | (refine Same.trans ?_ (by assumption); walk_at "fr"))
local macro_rules | `(tactic| walk_at "sd") => `(tactic| first
  | assumption
  | decide
  | omega
  | exact Or.inr ⟨by decide, by decide⟩
  | exact ⟨by decide, by decide, by decide⟩
  | exact ⟨by walk_at "sd", by walk_at "sd"⟩)
local macro_rules | `(tactic| walk_at "at") => `(tactic| first | exact rfl | assumption)
local macro_rules | `(tactic| walk_at "w1") => `(tactic| first
  | with_reducible refine s_var rfl ?_
  | with_reducible refine s_c ?_
  | with_reducible refine s_op ?_
  | with_reducible refine s_cons ?_
  | with_reducible refine s_nil ?_
  | with_reducible refine s_cb ?_
  | with_reducible refine s_i0 ?_
  | with_reducible refine s_eqI ?_
  | with_reducible refine s_seq ?_
  | with_reducible refine s_asg ?_
  | with_reducible refine s_gname ?_
  | with_reducible refine s_int ?_
  | ((with_reducible refine' s_ic ?sda ?_); (case sda => walk_at "sd"))
  | with_reducible refine s_ret ?_
  | with_reducible refine s_if ?_
  | with_reducible refine s_test ?_
  | with_reducible refine s_bl ?_
  | with_reducible refine s_nx ?_
  | with_reducible refine s_rt ?_
  | with_reducible refine s_drop ?_
  | with_reducible refine s_next ?_
  | with_reducible refine s_call ?_
  | with_reducible refine s_lst ?_
  | with_reducible refine s_tup ?_
  | with_reducible refine s_sub ?_
  | with_reducible refine s_itt ?_
  | with_reducible refine s_itf ?_
  | with_reducible refine s_and ?_
  | with_reducible refine s_or ?_
  | with_reducible refine s_notT ?_
  | with_reducible refine s_tb ?_
  | with_reducible refine s_rb ?_
  | with_reducible refine s_notV ?_
  | with_reducible refine s_andV ?_
  | with_reducible refine s_orV ?_
  | with_reducible refine s_ifE ?_
  | with_reducible refine s_isN ?_
  | with_reducible refine s_notN ?_
  | with_reducible refine s_dget ?_
  | with_reducible refine s_din ?_
  | with_reducible refine s_dnin ?_
  | with_reducible refine s_dput ?_
  | with_reducible refine s_fld ?_
  | with_reducible refine s_fldS ?_
  | with_reducible refine s_me ?_
  | with_reducible refine s_gown ?_
  | with_reducible refine s_try ?_
  | with_reducible refine s_bm ?_
  | with_reducible refine s_forL ?_
  | with_reducible refine s_forT ?_
  | with_reducible refine s_forR ?_
  | with_reducible refine s_forR2 ?_
  | with_reducible refine s_lc0 ?_
  | with_reducible refine s_ifbT rfl ?_
  | with_reducible refine s_ifbF rfl ?_
  | ((with_reducible refine' s_isT ?sda ?_); (case sda => walk_at "ty"))
  | ((with_reducible refine' s_ixl ?sda ?sdb ?_); (case sda => walk_at "lk"); (case sdb => walk_at "at"))
  | ((with_reducible refine' s_ixt ?sda ?sdb ?_); (case sda => walk_at "lk"); (case sdb => walk_at "at"))
  | ((with_reducible refine' s_lenl ?sda ?_); (case sda => walk_at "lk"))
  | ((with_reducible refine' s_lent ?sda ?_); (case sda => walk_at "lk"))
  | ((with_reducible refine' s_setl ?sda ?sdb ?_); (case sda => walk_at "lk"); (case sdb => walk_at "at"); (intro _ _ _))
  | ((with_reducible refine' s_fldv ?sda ?sdb ?sdc ?_); (case sda => walk_at "lk"); (case sdb => exact List.mem_cons_self); (case sdc => exact rfl))
  | ((with_reducible refine' s_fldSv ?sda ?sdb ?sdc ?_); (case sda => walk_at "lk"); (case sdb => exact List.mem_cons_self); (case sdc => first | decide | simp); (intro _ _ _))
  | ((with_reducible refine' s_mev ?sda ?_); (case sda => walk_at "lk"))
  | ((with_reducible refine' s_gownv ?sda ?_); (case sda => walk_at "lk"))
  | ((with_reducible refine' s_tyl ?sda ?_); (case sda => walk_at "lk"))
  | ((with_reducible refine' s_dinS ?sda ?_); (case sda => walk_at "lk"))
  | ((with_reducible refine' s_dninS ?sda ?_); (case sda => walk_at "lk"))
  | with_reducible refine s_eq rfl ?_
  | with_reducible refine s_ne rfl ?_
  | with_reducible refine s_raiseX ?_
  | with_reducible refine s_rt0 ?_)
local macro_rules | `(tactic| walk_at "ty") => `(tactic| first | exact rfl | exact ty_l (by walk_at "lk") | exact ty_t (by walk_at "lk"))
local macro_rules | `(tactic| walk_at "w") => `(tactic| repeat (walk_at "w1"))

variable {K : PySem.W.Frag}
theorem s_xf {a : Addr} {C dd : Addr} {f : Str} {fs : List (Str × V)} {v : V} {te : TE} {σ : L2.St} {H : Hp} {Q : VK} (q : te σ H fun x H1 => x = .ref a ∧ H1 dd = some (.xd fs) ∧ fs.lookup f = some v ∧ Q v H1) (m : ∀ Q1 Q2 : VK, (∀ x H, Q1 x H → Q2 x H) → te σ H Q1 → te σ H Q2) : tXf a (.ref C) (some dd) C f te σ H Q :=
  m _ _ (fun _ _ ⟨h1, h2, h3, h4⟩ => ⟨h1, rfl, dd, fs, v, rfl, h2, h3, h4⟩) q
theorem vm {i : Nat} {σ : L2.St} {H : Hp} : ∀ Q1 Q2 : VK, (∀ x H, Q1 x H → Q2 x H) → tVar i σ H Q1 → tVar i σ H Q2 := fun _ _ h ⟨v, e, q⟩ => ⟨v, e, h _ _ q⟩
theorem u_same {n : Nat} {x y : V} {d : Dat} {H : Hp} {Q : VK} {E : XK} (hx : Dv H d x) (hy : Dv H d y) (hd : d.dep ≤ n) (q : Q (.bl true) H) : sp__law_same n [x, y] H Q E :=
  ⟨x, y, d, d, rfl, hx, hy, hd, hd, fun b hb => by rw [hb.mpr rfl]; exact q⟩
theorem p_found {W : WX} (he : PySem.W.exmOne K (.ref (He.ga K "NoKey")) (.ref (He.ga K "NoKey")) = some true) (hk : PySem.W.kitOne K (.ref (He.ga K "NoKey")) (.ref (He.ga K "SlotError")) = some true) (vs : List V) (H : Hp) (Q : VK) (E : XK) (h : sp__law_found K vs H Q E) : t__law_found K W { nx := fun _ H' => Q .non H', rt := Q } (start N__law_found vs) H := by
  obtain ⟨a, d, k, ps, rfl, hS, q⟩ := h
  have hS' := hS
  obtain ⟨dx, ha, hd⟩ := hS
  show t__law_found K W _ [some _, some _, none] H
  unfold t__law_found
  walk_at "w"
  refine ⟨a, d, k, ps, rfl, hS', fun v hv => ?_, fun hn dd H1 h1 h2 h3 => ?_⟩
  · walk_at "w"
    refine s_newL (by simp) fun p H1 m1 m2 m3 => ?_
    refine q p H1 m3 m1 (by rw [m2, hv]; rfl)
  · refine ⟨true, he, fun _ x hx => ?_, fun z => nomatch z⟩
    walk_at "w"
    refine ⟨_, dd, _, true, rfl, rfl, rfl, h2, hk, ?_⟩
    walk_at "w"
    refine s_xf (v := .str k) (fs := [("key", .str k)]) ?_ vm
    walk_at "w"
    refine ⟨rfl, h2, by simp [List.lookup], ?_⟩
    walk_at "w"
    refine u_same (d := .str k) rfl rfl (Nat.le_refl _) ?_
    walk_at "w"
    refine s_newL (by simp) fun p H2 m1 m2 m3 => ?_
    exact q p H2 (h3.trans m3) (none_of h3 m1) (by rw [m2, hn]; rfl)
theorem dep_rows (ps : List (Str × Int)) : (Dat.lst (rowsD ps)).dep ≤ 2 := by
  have : Dat.depL (rowsD ps) ≤ 1 := by
    unfold rowsD
    induction ps with
    | nil => simp [Dat.depL]
    | cons p r ih =>
      simp only [List.map_cons, Dat.depL, Dat.dep]
      simp only [Nat.max_le]
      exact ⟨by decide, ih⟩
  simp only [Dat.dep]; omega
theorem dv_rows {H : Hp} {r : Addr} {ps : List (Str × Int)} (h : RowsAt H r ps) (hl : ps.length ≤ 1000000) : Dv H (.lst (rowsD ps)) (.ref r) := by
  obtain ⟨xs, hr, hx⟩ := h
  exact ⟨r, xs, rfl, by rw [rows_len hx]; exact hl, hr, hx⟩
theorem RowsAt.same {H H' : Hp} {r : Addr} {ps : List (Str × Int)} (s : Same H H') (h : RowsAt H r ps) : RowsAt H' r ps := by
  obtain ⟨xs, hr, hx⟩ := h
  exact ⟨xs, s _ _ hr, DvL.same s hx⟩
theorem StoreAt.same {H H' : Hp} {a d : Addr} {ps : List (Str × Int)} (s : Same H H') (h : StoreAt K H a d ps) : StoreAt K H' a d ps := by
  obtain ⟨dx, h1, h2⟩ := h
  exact ⟨dx, s _ _ h1, s _ _ h2⟩
theorem filter_get : ∀ {ps : List (Str × Int)} {k : Str}, (ps.map (·.1)).Nodup → (ps.filter fun p => decide (p.1 = k)).map (fun p => Dat.int p.2) = (getP ps k).toList.map Dat.int
  | [], k, _ => rfl
  | p :: ps, k, h => by
    simp only [List.map_cons, List.nodup_cons] at h
    by_cases e : p.1 = k
    · have hn : ps.filter (fun p => decide (p.1 = k)) = [] := by
        rw [List.filter_eq_nil_iff]
        intro z hz
        simp only [decide_eq_true_eq]
        intro ez
        exact h.1 (by rw [e, ← ez]; exact List.mem_map_of_mem hz)
      simp [getP, List.filter_cons, e, hn, List.find?_cons]
    · have ih := filter_get (ps := ps) (k := k) h.2
      simp only [getP] at ih ⊢
      simp only [List.filter_cons, e, decide_false, List.find?_cons]
      exact ih
theorem p_tells {W : WX} (vs : List V) (H : Hp) (Q : VK) (E : XK) (h : sp__law_tells K vs H Q E) : t__law_tells K W { nx := fun _ H' => Q .non H', rt := Q } (start N__law_tells vs) H := by
  obtain ⟨a, d, r, u, ps, keys, rfl, hS, hR, hl, nd, hu, hk, q⟩ := h
  show t__law_tells K W _ [some _, some _, some _, none, none, none, none] H
  unfold t__law_tells
  obtain ⟨dx, ha, hd⟩ := id hS
  walk_at "w"
  refine ⟨a, d, ps, rfl, hS, fun p H1 s1 n1 r1 => ?_⟩
  walk_at "w"
  refine u_same (dv_rows r1 (by omega)) (dv_rows (hR.same s1) (by omega)) (dep_rows ps) ?_
  obtain ⟨xs1, hp1, hx1⟩ := r1
  have lx1 := rows_len hx1
  walk_at "w"
  refine s_newL (by simp) fun t1 H2 a2 b2 s2 => ?_
  walk_at "w"
  refine s_app (s2 _ _ hp1) (by omega) fun H3 a3 e3 => ?_
  walk_at "w"
  refine s_newL (by simp) fun t2 H4 a4 b4 s4 => ?_
  walk_at "w"
  refine s_setl (j := 0) (s4 _ _ a3) (by unfold ixN; rw [if_pos (by omega), if_pos (by simp)]; rfl) fun H5 a5 e5 => ?_
  have n2 : H1 p = some (.lst xs1) := hp1
  have sm5 : Same H H5 := by
    have z1 : Same H H2 := s1.trans s2
    have z2 : Same H H3 := same_ext n1 z1 e3
    have z3 : Same H H4 := z2.trans s4
    exact same_ext n1 z3 e5
  clear a5 e5 b4 a4 s4 a3 e3 a2 b2 s2 hx1 lx1 n2
  walk_at "w"
  refine ⟨a, d, ps, rfl, hS.same sm5, fun p6 H6 s6 n6 r6 => ?_⟩
  walk_at "w"
  refine u_same (dv_rows r6 (by omega)) (dv_rows (hR.same (sm5.trans s6)) (by omega)) (dep_rows ps) ?_
  have sm6 := sm5.trans s6
  have ha6 := sm6 _ _ ha
  have hd6 := sm6 _ _ hd
  walk_at "w"
  have lkv : (kvOf ps).length = ps.length := by unfold kvOf; rw [List.length_map]
  have sz : ps.length ≤ sizeLine := Nat.le_trans hl (by rw [sizeLine_eq]; decide)
  refine ⟨a, dx, _, d, _, rfl, ha6, hd6, fun od S hS' => ?_, fun H7 p7 ts s7 n7 z1 z2 z3 z4 => ?_⟩
  · have nSd : d ≠ S := ne_of_none hd6 hS'
    have naS : a ≠ S := ne_of_none ha6 hS'
    have nad : a ≠ d := ne_of ha6 hd6 (fun z => nomatch z)
    have e1 : upd (upd H6 d (.frz od (.dK (kvOf ps)))) S (.lst []) a = some (.ins (He.ga K "Store") dx (ks_Store.zip [V.ref d])) := by rw [upd_ne naS, upd_ne nad]; exact ha6
    have e2 : upd (upd H6 d (.frz od (.dK (kvOf ps)))) S (.lst []) d = some (.frz od (.dK (kvOf ps))) := by rw [upd_ne nSd]; exact upd_same
    refine ⟨a, dx, d, od, _, rfl, e1, e2, fun it H8 m1 m2 m3 m4 => ⟨it, rfl, m1, m2, m3, m4, a, dx, d, _, rfl, m2 _ _ e1, .inr ⟨od, m2 _ _ e2⟩, _, rfl, ?_, ?_, rfl⟩⟩
    · rw [lkv]; omega
    · rw [lkv]; exact sz
  have r7 : RowsAt H7 p7 ps := ⟨_, z3, dvl_pairs z4⟩
  have sm7 := sm6.trans s7
  walk_at "w"
  refine u_same (dv_rows r7 (by omega)) (dv_rows (hR.same sm7) (by omega)) (dep_rows ps) ?_
  obtain ⟨xs, hr, hx⟩ := hR
  have lx := rows_len hx
  have hr7 := sm7 _ _ hr
  have ha7 := sm7 _ _ ha
  have hd7 := sm7 _ _ hd
  walk_at "w"
  refine s_lenown ha7 ⟨a, dx, d, _, rfl, ha7, .inl hd7, _, rfl, by rw [lkv]; omega, ?_⟩
  walk_at "w"
  have eL : (!decide (V.int ((kvOf ps).length : Nat) = V.int (xs.length : Nat))) = false := by rw [lkv, lx]; simp
  rw [eL]
  walk_at "w"
  refine s_forL1 (sm7 _ _ hu) (fun i σ H' => Same H H' ∧ ∃ o1 o2 o3, σ = [some (.ref a), some (.ref r), some (.ref u), some (.ref p), o1, o2, o3]) ⟨sm7, _, _, _, rfl⟩ (fun i σ H' _ h => h.1 _ _ hu) ?_ ?_
  · rintro i x σ H' hxk ⟨sm, o1, o2, o3, rfl⟩
    obtain ⟨k, hkk, rfl⟩ : ∃ k, keys[i]? = some k ∧ x = V.str k := by
      rw [List.getElem?_map] at hxk
      cases e : keys[i]? with
      | none => rw [e] at hxk; cases hxk
      | some k => rw [e] at hxk; cases hxk; exact ⟨k, rfl, rfl⟩
    have hr' := sm _ _ hr
    have hx' := DvL.same sm hx
    walk_at "w"
    refine s_lcF ps (fun p => decide (p.1 = k)) (fun p => Dat.int p.2) hr' lx (by omega) ?_ ?_
    · intro j pp x Hc D acc R1 R0 hp hx2 smc hD hacc k1 k0
      obtain ⟨p', t, hp', rfl, ht⟩ := rows_get hx' hx2
      obtain rfl : pp = p' := Option.some.inj (hp.symm.trans hp')
      have ht' := smc _ _ ht
      refine s_gname ⟨rfl, ?_⟩
      walk_at "w"
      refine s_ite (fun c => ?_) (fun c => ?_)
      · walk_at "w"
        exact k1 (by simpa using c) _ _ (Same.refl _) (by simp [Dv])
      · exact k0 (by simpa using c) _ (Same.refl _)
    · intro D H8 ys s8 n8 y8 l8 dv8
      have dv9 := DvL.same del_same dv8
      rw [filter_get nd] at dv9
      have ey := flat_ints (f := id) dv9
      have sm8 := sm.trans s8
      walk_at "w"
      refine s_inown (sm8 _ _ ha) ⟨a, d, k, ps, rfl, hS.same sm8, _, rfl, ?_⟩
      walk_at "w"
      have e1 : decide ((ys.length : Int) = 1) = (getP ps k).isSome := by
        rw [ey, List.length_map]
        cases getP ps k <;> rfl
      rw [e1]
      refine u_same (d := .bl (getP ps k).isSome) rfl rfl (by simp [Dat.dep]) ?_
      walk_at "w"
      refine ⟨a, d, k, ps, rfl, hS.same sm8, fun p9 H9 s9 n9 y9 => ?_⟩
      walk_at "w"
      refine u_same (d := .lst ((getP ps k).toList.map Dat.int)) ⟨p9, _, rfl, ?_, y9, ?_⟩ ⟨D, ys, rfl, ?_, s9 _ _ y8, DvL.same s9 dv9⟩ ?_ ?_
      · cases getP ps k <;> simp
      · cases getP ps k <;> simp [DvL, Dv]
      · rw [ey, List.length_map]; cases getP ps k <;> simp
      · cases getP ps k <;> simp [Dat.dep, Dat.depL]
      walk_at "w"
      exact ⟨sm8.trans s9, _, _, _, rfl⟩
  · rintro σ H' ⟨sm, o1, o2, o3, rfl⟩
    walk_at "w"
    exact q H' sm
end L51


set_option maxHeartbeats 4000000
namespace L51
open PySem PySem.Spec PyProof.Rows L2 U

local macro_rules | `(tactic| walk_at "lk") => `(tactic| first
  | assumption
  | exact upd_same
  | (refine same_get (by assumption) ?_; walk_at "lk")
  | (refine ext_get (by assumption) ?_ ?_; (walk_at "lk"); (walk_at "ne")))
local macro_rules | `(tactic| walk_at "ne") => `(tactic| first
  | assumption
  | (refine Ne.symm ?_; assumption)
  | exact ne_of_none (by walk_at "lk") (by assumption)
  | exact Ne.symm (ne_of_none (by walk_at "lk") (by assumption)))
local macro_rules | `(tactic| walk_at "fr") => `(tactic| first
  | exact Ext.refl
  | exact Same.refl _
  | assumption
  | (refine Ext.trans ?_ (by assumption); walk_at "fr")
  | (refine Ext.trans ?_ (Ext.of (by assumption)); walk_at "fr")
  | (refine Same.trans ?_ (by assumption); walk_at "fr"))
local macro_rules | `(tactic| walk_at "sd") => `(tactic| first
  | assumption
  | decide
  | omega
  | exact Or.inr ⟨by decide, by decide⟩
  | exact ⟨by decide, by decide, by decide⟩
  | exact ⟨by walk_at "sd", by walk_at "sd"⟩)
local macro_rules | `(tactic| walk_at "at") => `(tactic| first | exact rfl | assumption)
local macro_rules | `(tactic| walk_at "w1") => `(tactic| first
  | with_reducible refine s_var rfl ?_
  | with_reducible refine s_c ?_
  | with_reducible refine s_op ?_
  | with_reducible refine s_cons ?_
  | with_reducible refine s_nil ?_
  | with_reducible refine s_cb ?_
  | with_reducible refine s_i0 ?_
  | with_reducible refine s_eqI ?_
  | with_reducible refine s_seq ?_
  | with_reducible refine s_asg ?_
  | with_reducible refine s_gname ?_
  | with_reducible refine s_int ?_
  | ((with_reducible refine' s_ic ?sda ?_); (case sda => walk_at "sd"))
  | with_reducible refine s_ret ?_
  | with_reducible refine s_if ?_
  | with_reducible refine s_test ?_
  | with_reducible refine s_bl ?_
  | with_reducible refine s_nx ?_
  | with_reducible refine s_rt ?_
  | with_reducible refine s_drop ?_
  | with_reducible refine s_next ?_
  | with_reducible refine s_call ?_
  | with_reducible refine s_lst ?_
  | with_reducible refine s_tup ?_
  | with_reducible refine s_sub ?_
  | with_reducible refine s_itt ?_
  | with_reducible refine s_itf ?_
  | with_reducible refine s_and ?_
  | with_reducible refine s_or ?_
  | with_reducible refine s_notT ?_
  | with_reducible refine s_tb ?_
  | with_reducible refine s_rb ?_
  | with_reducible refine s_notV ?_
  | with_reducible refine s_andV ?_
  | with_reducible refine s_orV ?_
  | with_reducible refine s_ifE ?_
  | with_reducible refine s_isN ?_
  | with_reducible refine s_notN ?_
  | with_reducible refine s_dget ?_
  | with_reducible refine s_din ?_
  | with_reducible refine s_dnin ?_
  | with_reducible refine s_dput ?_
  | with_reducible refine s_fld ?_
  | with_reducible refine s_fldS ?_
  | with_reducible refine s_me ?_
  | with_reducible refine s_gown ?_
  | with_reducible refine s_try ?_
  | with_reducible refine s_bm ?_
  | with_reducible refine s_forL ?_
  | with_reducible refine s_forT ?_
  | with_reducible refine s_forR ?_
  | with_reducible refine s_forR2 ?_
  | with_reducible refine s_lc0 ?_
  | with_reducible refine s_ifbT rfl ?_
  | with_reducible refine s_ifbF rfl ?_
  | ((with_reducible refine' s_isT ?sda ?_); (case sda => walk_at "ty"))
  | ((with_reducible refine' s_ixl ?sda ?sdb ?_); (case sda => walk_at "lk"); (case sdb => walk_at "at"))
  | ((with_reducible refine' s_ixt ?sda ?sdb ?_); (case sda => walk_at "lk"); (case sdb => walk_at "at"))
  | ((with_reducible refine' s_lenl ?sda ?_); (case sda => walk_at "lk"))
  | ((with_reducible refine' s_lent ?sda ?_); (case sda => walk_at "lk"))
  | ((with_reducible refine' s_setl ?sda ?sdb ?_); (case sda => walk_at "lk"); (case sdb => walk_at "at"); (intro _ _ _))
  | ((with_reducible refine' s_fldv ?sda ?sdb ?sdc ?_); (case sda => walk_at "lk"); (case sdb => exact List.mem_cons_self); (case sdc => exact rfl))
  | ((with_reducible refine' s_fldSv ?sda ?sdb ?sdc ?_); (case sda => walk_at "lk"); (case sdb => exact List.mem_cons_self); (case sdc => first | decide | simp); (intro _ _ _))
  | ((with_reducible refine' s_mev ?sda ?_); (case sda => walk_at "lk"))
  | ((with_reducible refine' s_gownv ?sda ?_); (case sda => walk_at "lk"))
  | ((with_reducible refine' s_tyl ?sda ?_); (case sda => walk_at "lk"))
  | ((with_reducible refine' s_dinS ?sda ?_); (case sda => walk_at "lk"))
  | ((with_reducible refine' s_dninS ?sda ?_); (case sda => walk_at "lk"))
  | with_reducible refine s_eq rfl ?_
  | with_reducible refine s_ne rfl ?_
  | with_reducible refine s_raiseX ?_
  | with_reducible refine s_rt0 ?_)
local macro_rules | `(tactic| walk_at "ty") => `(tactic| first | exact rfl | exact ty_l (by walk_at "lk") | exact ty_t (by walk_at "lk"))
local macro_rules | `(tactic| walk_at "w") => `(tactic| repeat (walk_at "w1"))

variable {K : PySem.W.Frag}
theorem rows_ext {H H' : Hp} {x : Addr} (e : U.Ext x H H') (hx : ∀ xs, H x ≠ some (.tup xs)) : ∀ {ps : List (Str × Int)} {xs : List V}, DvL H (rowsD ps) xs → DvL H' (rowsD ps) xs
  | [], xs, h => by
    simp only [rowsD, List.map_nil, DvL] at h ⊢
    exact h
  | p :: ps, xs, h => by
    simp only [rowsD, List.map_cons, DvL] at h ⊢
    obtain ⟨y, ys, rfl, h1, h2⟩ := h
    refine ⟨y, ys, rfl, ?_, rows_ext e hx h2⟩
    simp only [Dv, DvL] at h1 ⊢
    obtain ⟨t, zs, rfl, a, ht, b⟩ := h1
    exact ⟨t, zs, rfl, a, e _ _ ht (fun z => by rw [z] at ht; exact hx _ ht), b⟩
theorem putP_keys (ps : List (Str × Int)) (k : Str) (v : Int) (h : (ps.map (·.1)).Nodup) : ((putP ps k v).map (·.1)).Nodup := by
  unfold putP
  split
  · rw [List.map_map]
    have e : ((fun x : Str × Int => x.1) ∘ fun p : Str × Int => if p.1 = k then (p.1, v) else p) = fun p => p.1 := by
      funext p
      by_cases hc : p.1 = k <;> simp [hc]
    rw [e]
    exact h
  · rename_i hn
    rw [List.map_append, List.nodup_append]
    refine ⟨h, by simp, fun a ha b hb => ?_⟩
    simp only [List.map_cons, List.map_nil, List.mem_singleton] at hb
    subst hb
    intro e
    subst e
    obtain ⟨p, hp, e⟩ := List.mem_map.mp ha
    exact hn (List.any_eq_true.mpr ⟨p, hp, by simpa using e⟩)
theorem st_lst {H : Hp} {s l : Addr} (h : StAt H s l) : ∃ xs, H s = some (.lst xs) := by
  obtain ⟨cells, i, b, c, k, t, h1, _⟩ := h
  exact ⟨_, h1⟩
theorem st_ext {H H' : Hp} {s l d : Addr} {kvs : List (Key × V)} (h : StAt H s l) (hd : H d = some (.dK kvs)) (e : U.Ext d H H') : StAt H' s l := by
  obtain ⟨cells, i, b, c, k, t, h1, h2, h3⟩ := h
  exact ⟨cells, i, b, c, k, t, e _ _ h1 (ne_of h1 hd (fun z => nomatch z)), e _ _ h2 (ne_of h2 hd (fun z => nomatch z)), h3⟩
/-- the law's state behind n turns -/
structure LS (K : PySem.W.Frag) (H : Hp) (s l u a1 d1 a2 d2 r1 r2 : Addr) (kz : List Str) (p1 p2 : List (Str × Int)) (n : Nat) : Prop where
  st : StAt H s l
  ku : H u = some (.lst (kz.map V.str))
  kl : kz.length = 6
  s1 : StoreAt K H a1 d1 p1
  s2 : StoreAt K H a2 d2 p2
  w1 : RowsAt H r1 p1
  w2 : RowsAt H r2 p2
  dd : d1 ≠ d2
  us : u ≠ s
  rs1 : r1 ≠ s
  rs2 : r2 ≠ s
  l1 : p1.length ≤ n
  l2 : p2.length ≤ n
  nd1 : (p1.map (·.1)).Nodup
  nd2 : (p2.map (·.1)).Nodup
section
variable {H H' : Hp} {s l u a1 d1 a2 d2 r1 r2 : Addr} {kz : List Str} {p1 p2 : List (Str × Int)} {n : Nat}
theorem LS.same (L : LS K H s l u a1 d1 a2 d2 r1 r2 kz p1 p2 n) (e : Same H H') : LS K H' s l u a1 d1 a2 d2 r1 r2 kz p1 p2 n :=
  ⟨L.st.same e, e _ _ L.ku, L.kl, L.s1.same e, L.s2.same e, L.w1.same e, L.w2.same e, L.dd, L.us, L.rs1, L.rs2, L.l1, L.l2, L.nd1, L.nd2⟩
theorem LS.draw (L : LS K H s l u a1 d1 a2 d2 r1 r2 kz p1 p2 n) (t : StAt H' s l) (e : U.Ext s H H') : LS K H' s l u a1 d1 a2 d2 r1 r2 kz p1 p2 n := by
  obtain ⟨xs, hs⟩ := st_lst L.st
  obtain ⟨dx1, x1, y1⟩ := L.s1
  obtain ⟨dx2, x2, y2⟩ := L.s2
  obtain ⟨z1, v1, v2⟩ := L.w1
  obtain ⟨z2, t1, t2⟩ := L.w2
  have nt : ∀ xs, H s ≠ some (.tup xs) := fun xs z => by rw [hs] at z; cases z
  exact ⟨t, e _ _ L.ku L.us, L.kl, ⟨dx1, e _ _ x1 (ne_of x1 hs (fun z => nomatch z)), e _ _ y1 (ne_of y1 hs (fun z => nomatch z))⟩, ⟨dx2, e _ _ x2 (ne_of x2 hs (fun z => nomatch z)), e _ _ y2 (ne_of y2 hs (fun z => nomatch z))⟩,
    ⟨z1, e _ _ v1 L.rs1, rows_ext e nt v2⟩, ⟨z2, e _ _ t1 L.rs2, rows_ext e nt t2⟩, L.dd, L.us, L.rs1, L.rs2, L.l1, L.l2, L.nd1, L.nd2⟩
theorem rows_put {d r : Addr} {kvs : List (Key × V)} {ps : List (Str × Int)} (w : RowsAt H r ps) (hd : H d = some (.dK kvs)) (e : U.Ext d H H') : RowsAt H' r ps := by
  obtain ⟨z, v1, v2⟩ := w
  exact ⟨z, e _ _ v1 (ne_of v1 hd (fun z => nomatch z)), rows_ext e (fun xs z => by rw [hd] at z; cases z) v2⟩
theorem LS.rows1_put (L : LS K H s l u a1 d1 a2 d2 r1 r2 kz p1 p2 n) (e : U.Ext d1 H H') : RowsAt H' r1 p1 := by
  obtain ⟨dx1, x1, y1⟩ := L.s1
  exact rows_put L.w1 y1 e
theorem LS.rows2_put (L : LS K H s l u a1 d1 a2 d2 r1 r2 kz p1 p2 n) (e : U.Ext d2 H H') : RowsAt H' r2 p2 := by
  obtain ⟨dx1, x1, y1⟩ := L.s2
  exact rows_put L.w2 y1 e
theorem LS.sa1 (L : LS K H s l u a1 d1 a2 d2 r1 r2 kz p1 p2 n) : H a1 = some (.ins (He.ga K "Store") L.s1.choose (ks_Store.zip [V.ref d1])) := L.s1.choose_spec.1
theorem LS.sa2 (L : LS K H s l u a1 d1 a2 d2 r1 r2 kz p1 p2 n) : H a2 = some (.ins (He.ga K "Store") L.s2.choose (ks_Store.zip [V.ref d2])) := L.s2.choose_spec.1
theorem LS.sz1 (L : LS K H s l u a1 d1 a2 d2 r1 r2 kz p1 p2 n) (h : n < 100) : p1.length ≤ 900 := by have := L.l1; omega
theorem LS.sz2 (L : LS K H s l u a1 d1 a2 d2 r1 r2 kz p1 p2 n) (h : n < 100) : p2.length ≤ 900 := by have := L.l2; omega
theorem LS.sz1' (L : LS K H s l u a1 d1 a2 d2 r1 r2 kz p1 p2 (n + 1)) (h : n < 100) : p1.length ≤ 900 := by have := L.l1; omega
theorem LS.sz2' (L : LS K H s l u a1 d1 a2 d2 r1 r2 kz p1 p2 (n + 1)) (h : n < 100) : p2.length ≤ 900 := by have := L.l2; omega
theorem LS.kl' (L : LS K H s l u a1 d1 a2 d2 r1 r2 kz p1 p2 n) : kz.length ≤ 100 := by have := L.kl; omega
theorem LS.put1 {H2 : Hp} {k : Str} {v : Int} {r' : Addr} (L : LS K H s l u a1 d1 a2 d2 r1 r2 kz p1 p2 n) (sm : Same H' H2) (t : StoreAt K H' a1 d1 (putP p1 k v)) (e : U.Ext d1 H H') (w : RowsAt H2 r' (putP p1 k v)) (hn : H' r' = none) : LS K H2 s l u a1 d1 a2 d2 r' r2 kz (putP p1 k v) p2 (n + 1) := by
  obtain ⟨dx1, x1, y1⟩ := L.s1
  obtain ⟨dx2, x2, y2⟩ := L.s2
  have st' := st_ext L.st y1 e
  obtain ⟨xs, hs⟩ := st_lst st'
  refine ⟨st'.same sm, sm _ _ (e _ _ L.ku (ne_of L.ku y1 (fun z => nomatch z))), L.kl, t.same sm, ⟨dx2, sm _ _ (e _ _ x2 (ne_of x2 y1 (fun z => nomatch z))), sm _ _ (e _ _ y2 (Ne.symm L.dd))⟩, w, (rows_put L.w2 y1 e).same sm, L.dd, L.us, (ne_of_none hs hn).symm, L.rs2, ?_, ?_, putP_keys _ _ _ L.nd1, L.nd2⟩
  · have := L.l1; have := putP_len p1 k v; omega
  · have := L.l2; omega
theorem LS.put2 {H2 : Hp} {k : Str} {v : Int} {r' : Addr} (L : LS K H s l u a1 d1 a2 d2 r1 r2 kz p1 p2 n) (sm : Same H' H2) (t : StoreAt K H' a2 d2 (putP p2 k v)) (e : U.Ext d2 H H') (w : RowsAt H2 r' (putP p2 k v)) (hn : H' r' = none) : LS K H2 s l u a1 d1 a2 d2 r1 r' kz p1 (putP p2 k v) (n + 1) := by
  obtain ⟨dx1, x1, y1⟩ := L.s1
  obtain ⟨dx2, x2, y2⟩ := L.s2
  have st' := st_ext L.st y2 e
  obtain ⟨xs, hs⟩ := st_lst st'
  refine ⟨st'.same sm, sm _ _ (e _ _ L.ku (ne_of L.ku y2 (fun z => nomatch z))), L.kl, ⟨dx1, sm _ _ (e _ _ x1 (ne_of x1 y2 (fun z => nomatch z))), sm _ _ (e _ _ y1 L.dd)⟩, t.same sm, (rows_put L.w1 y2 e).same sm, w, L.dd, L.us, L.rs1, (ne_of_none hs hn).symm, ?_, ?_, L.nd1, putP_keys _ _ _ L.nd2⟩
  · have := L.l1; omega
  · have := L.l2; have := putP_len p2 k v; omega
end
theorem r_law {W : WX} (vs : List V) (H : Hp) (Q : VK) (E : XK) (h : sp_law K vs H Q E) : t_law K W { nx := fun _ H' => Q .non H', rt := Q } (start N_law vs) H := by
  obtain ⟨a, cells, rfl, hS, q⟩ := h
  show t_law K W _ [some _, none, none, none, none, none, none, none, none, none, none] H
  unfold t_law
  walk_at "w"
  refine ⟨a, cells, rfl, hS, fun s l H1 sm1 n1 nl1 st1 => ?_⟩
  walk_at "w"
  obtain ⟨xs0, hs0⟩ := st_lst st1
  refine ⟨3, rfl, by decide, by decide, fun D hD => lc_range (lo := 0) (n := 3) (fun i H' => StAt H' s l ∧ ∃ acc : List Str, H' D = some (.lst (acc.map V.str)) ∧ acc.length = i) ⟨st1.same (fun b o e => by rw [upd_ne (ne_of_none e hD)]; exact e), [], upd_same, rfl⟩ ?_ ?_⟩
  · rintro i H' hi ⟨st, acc, hacc, hl⟩
    refine s_gname ⟨rfl, ?_⟩
    unfold tYes
    walk_at "w"
    refine ⟨s, l, rfl, st, fun z H2 st2 ex => ?_⟩
    have neD : D ≠ s := (ne_of_none hs0 hD).symm
    have hacc2 := ex _ _ hacc neD
    refine ⟨_, hacc2, by rw [List.length_map, hl, sizeLine_eq]; omega, ?_, acc ++ [z], by rw [upd_same, List.map_append]; rfl, by rw [List.length_append, hl]; rfl⟩
    obtain ⟨cells, i, b, c, k, t, h1, h2, h3⟩ := st2
    have nl : l ≠ D := by
      obtain ⟨cells, i, b, c, k, t, h1, h2, h3⟩ := st1
      exact ne_of_none h2 hD
    exact ⟨cells, i, b, c, k, t, by rw [upd_ne (Ne.symm neD)]; exact h1, by rw [upd_ne nl]; exact h2, h3⟩
  rintro H2 ⟨st2, acc, hD2, hacc⟩
  walk_at "w"
  refine s_newL (by simp) fun p H3 n3 b3 s3 => ?_
  walk_at "w"
  refine s_cat (s3 _ _ hD2) b3 (by rw [List.length_map, hacc]; decide) fun u H4 n4 b4 s4 => ?_
  have hkz : H4 u = some (.lst ((acc ++ ([("" : Str), ("Key of 2" : Str), ("q" : Str)] : List Str)).map V.str)) := by rw [b4, List.map_append]; rfl
  have hkl : (acc ++ ([("" : Str), ("Key of 2" : Str), ("q" : Str)] : List Str)).length = 6 := by rw [List.length_append, hacc]; rfl
  generalize acc ++ ([("" : Str), ("Key of 2" : Str), ("q" : Str)] : List Str) = kz at hkz hkl
  have st4 : StAt H4 s l := (st2.same s3).same s4
  have us : u ≠ s := by
    obtain ⟨xs, h⟩ := st_lst (st2.same s3)
    exact (ne_of_none h n4).symm
  clear b4 n4 b3 hD2
  walk_at "w"
  refine s_mk0 fun a1 dx1 H5 n5 x5 s5 => ⟨a1, dx1, rfl, x5, fun d1 H6 n6 S6 e6 => ⟨rfl, ?_⟩⟩
  have sm6 : Same H4 H6 := same_ext n5 s5 e6
  walk_at "w"
  refine s_mk0 fun a2 dx2 H7 n7 x7 s7 => ⟨a2, dx2, rfl, x7, fun d2 H8 n8 S8 e8 => ⟨rfl, ?_⟩⟩
  have sm8 : Same H6 H8 := same_ext n7 s7 e8
  have dd : d1 ≠ d2 := by
    obtain ⟨_, _, z⟩ := S6
    exact ne_of_none (s7 _ _ z) n8
  walk_at "w"
  refine s_newL (by simp) fun r1 H9 n9 b9 s9 => ?_
  walk_at "w"
  refine s_newL (by simp) fun r2 H10 n10 b10 s10 => ?_
  have L : LS K H10 s l u a1 d1 a2 d2 r1 r2 kz [] [] 0 := by
    have t8 : StAt H8 s l := (st4.same sm6).same sm8
    obtain ⟨xs, h8⟩ := st_lst t8
    exact ⟨(t8.same s9).same s10, s10 _ _ (s9 _ _ (sm8 _ _ (sm6 _ _ hkz))), hkl, ((S6.same sm8).same s9).same s10, (S8.same s9).same s10, ⟨[], s10 _ _ b9, rfl⟩, ⟨[], b10, rfl⟩, dd, us, (ne_of_none h8 n9).symm, (ne_of_none (s9 _ _ h8) n10).symm, Nat.le_refl _, Nat.le_refl _, by simp, by simp⟩
  clear b10 n10 s10 b9 n9 s9 dd sm8 S8 e8 n8 x7 s7 n7 sm6 S6 e6 n6 x5 s5 n5 st4 us hkz hkl s4 s3 st2
  walk_at "w"
  refine ⟨_, _, _, u, _, kz, rfl, L.s1, L.w1, by simp, L.nd1, L.ku, L.kl', fun H11 s11 => ?_⟩
  have L1 := L.same s11
  walk_at "w"
  refine ⟨_, _, _, u, _, kz, rfl, L1.s2, L1.w2, by simp, L1.nd2, L1.ku, L1.kl', fun H12 s12 => ?_⟩
  have L2 := L1.same s12
  clear L L1 s11 s12
  walk_at "w"
  refine u_draw L2.st (by decide) (by decide) fun m H13 m0 m1 t13 e13 => ?_
  have L3 := L2.draw t13 e13
  clear L2
  walk_at "w"
  refine s_forR1 (by omega) (by omega) (fun i σ H' => ∃ r1 r2 p1 p2, LS K H' s l u a1 d1 a2 d2 r1 r2 kz p1 p2 i ∧ ∃ o1 o2 o3, σ = [some (.ref a), some (.ref s), some (.ref u), none, some (.ref a1), some (.ref a2), some (.ref r1), some (.ref r2), o1, o2, o3]) ⟨r1, r2, _, _, L3, _, _, _, rfl⟩ ?_ ?_
  · rintro i σ H' hi ⟨r1, r2, p1, p2, L, o1, o2, o3, rfl⟩
    replace hi : i < 100 := by omega
    walk_at "w"
    refine u_draw L.st (by decide) (by decide) fun j H1 j0 j1 t1 e1 => ?_
    have L1 := L.draw t1 e1
    obtain ⟨kk, hkk⟩ : ∃ kk, atI (kz.map V.str) j = some (.str kk) := by
      have hj : j.toNat < kz.length := by rw [L.kl]; omega
      refine ⟨kz[j.toNat], ?_⟩
      unfold atI ixN
      rw [if_pos j0, List.length_map, if_pos (by omega)]
      simp [hj]
    refine s_ixl L1.ku hkk ?_
    walk_at "w"
    refine u_draw L1.st (by decide) (by decide) fun j2 H2 j20 j21 t2 e2 => ?_
    have L2 := L1.draw t2 e2
    walk_at "w"
    refine s_ite (fun c => ?_) (fun c => ?_)
    · walk_at "w"
      refine ⟨s, l, rfl, L2.st, fun w H3 t3 e3 => ?_⟩
      have L3 := L2.draw t3 e3
      walk_at "w"
      refine u_draw L3.st (by decide) (by decide) fun j4 H4 j40 j41 t4 e4 => ?_
      have L4 := L3.draw t4 e4
      clear L3 L2 L1 L
      walk_at "w"
      refine s_ite (fun c => ?_) (fun c => ?_)
      · walk_at "w"
        refine s_setown L4.sa1 ⟨a1, d1, kk, w, p1, rfl, L4.s1, L4.sz1 hi, fun H6 t6 e6 => ?_⟩
        walk_at "w"
        refine ⟨r1, kk, w, p1, rfl, L4.rows1_put e6, L4.sz1 hi, fun r' H7 s7 n7 R7 => ?_⟩
        have L7 := L4.put1 s7 t6 e6 R7 n7
        walk_at "w"
        refine ⟨_, _, _, u, _, kz, rfl, L7.s1, L7.w1, L7.sz1' hi, L7.nd1, L7.ku, L7.kl', fun H8 s8 => ?_⟩
        have L8 := L7.same s8
        walk_at "w"
        refine ⟨_, _, _, u, _, kz, rfl, L8.s2, L8.w2, L8.sz2' hi, L8.nd2, L8.ku, L8.kl', fun H9 s9 => ?_⟩
        walk_at "w"
        exact ⟨_, _, _, _, L8.same s9, _, _, _, rfl⟩
      · walk_at "w"
        refine s_setown L4.sa2 ⟨a2, d2, kk, w, p2, rfl, L4.s2, L4.sz2 hi, fun H6 t6 e6 => ?_⟩
        walk_at "w"
        refine ⟨r2, kk, w, p2, rfl, L4.rows2_put e6, L4.sz2 hi, fun r' H7 s7 n7 R7 => ?_⟩
        have L7 := L4.put2 s7 t6 e6 R7 n7
        walk_at "w"
        refine ⟨_, _, _, u, _, kz, rfl, L7.s1, L7.w1, L7.sz1' hi, L7.nd1, L7.ku, L7.kl', fun H8 s8 => ?_⟩
        have L8 := L7.same s8
        walk_at "w"
        refine ⟨_, _, _, u, _, kz, rfl, L8.s2, L8.w2, L8.sz2' hi, L8.nd2, L8.ku, L8.kl', fun H9 s9 => ?_⟩
        walk_at "w"
        exact ⟨_, _, _, _, L8.same s9, _, _, _, rfl⟩
    · walk_at "w"
      refine u_draw L2.st (by decide) (by decide) fun j4 H4 j40 j41 t4 e4 => ?_
      have L4 := L2.draw t4 e4
      clear L2 L1 L
      walk_at "w"
      refine s_ite (fun c => ?_) (fun c => ?_)
      · walk_at "w"
        refine s_setown L4.sa1 ⟨a1, d1, kk, 0, p1, rfl, L4.s1, L4.sz1 hi, fun H6 t6 e6 => ?_⟩
        walk_at "w"
        refine ⟨r1, kk, 0, p1, rfl, L4.rows1_put e6, L4.sz1 hi, fun r' H7 s7 n7 R7 => ?_⟩
        have L7 := L4.put1 s7 t6 e6 R7 n7
        walk_at "w"
        refine ⟨_, _, _, u, _, kz, rfl, L7.s1, L7.w1, L7.sz1' hi, L7.nd1, L7.ku, L7.kl', fun H8 s8 => ?_⟩
        have L8 := L7.same s8
        walk_at "w"
        refine ⟨_, _, _, u, _, kz, rfl, L8.s2, L8.w2, L8.sz2' hi, L8.nd2, L8.ku, L8.kl', fun H9 s9 => ?_⟩
        walk_at "w"
        exact ⟨_, _, _, _, L8.same s9, _, _, _, rfl⟩
      · walk_at "w"
        refine s_setown L4.sa2 ⟨a2, d2, kk, 0, p2, rfl, L4.s2, L4.sz2 hi, fun H6 t6 e6 => ?_⟩
        walk_at "w"
        refine ⟨r2, kk, 0, p2, rfl, L4.rows2_put e6, L4.sz2 hi, fun r' H7 s7 n7 R7 => ?_⟩
        have L7 := L4.put2 s7 t6 e6 R7 n7
        walk_at "w"
        refine ⟨_, _, _, u, _, kz, rfl, L7.s1, L7.w1, L7.sz1' hi, L7.nd1, L7.ku, L7.kl', fun H8 s8 => ?_⟩
        have L8 := L7.same s8
        walk_at "w"
        refine ⟨_, _, _, u, _, kz, rfl, L8.s2, L8.w2, L8.sz2' hi, L8.nd2, L8.ku, L8.kl', fun H9 s9 => ?_⟩
        walk_at "w"
        exact ⟨_, _, _, _, L8.same s9, _, _, _, rfl⟩
  · rintro σ H' ⟨r1, r2, p1, p2, L, o1, o2, o3, rfl⟩
    walk_at "w"
    exact q H'
end L51


set_option maxHeartbeats 4000000
namespace L51
open PySem PySem.Spec PyProof.Rows L2 U

local macro_rules | `(tactic| walk_at "lk") => `(tactic| first
  | assumption
  | exact upd_same
  | (refine same_get (by assumption) ?_; walk_at "lk")
  | (refine ext_get (by assumption) ?_ ?_; (walk_at "lk"); (walk_at "ne")))
local macro_rules | `(tactic| walk_at "ne") => `(tactic| first
  | assumption
  | (refine Ne.symm ?_; assumption)
  | exact ne_of_none (by walk_at "lk") (by assumption)
  | exact Ne.symm (ne_of_none (by walk_at "lk") (by assumption)))
local macro_rules | `(tactic| walk_at "fr") => `(tactic| first
  | exact Ext.refl
  | exact Same.refl _
  | assumption
  | (refine Ext.trans ?_ (by assumption); walk_at "fr")
  | (refine Ext.trans ?_ (Ext.of (by assumption)); walk_at "fr")
  | (refine Same.trans ?_ (by assumption); walk_at "fr"))
local macro_rules | `(tactic| walk_at "sd") => `(tactic| first
  | assumption
  | decide
  | omega
  | exact Or.inr ⟨by decide, by decide⟩
  | exact ⟨by decide, by decide, by decide⟩
  | exact ⟨by walk_at "sd", by walk_at "sd"⟩)
local macro_rules | `(tactic| walk_at "at") => `(tactic| first | exact rfl | assumption)
local macro_rules | `(tactic| walk_at "w1") => `(tactic| first
  | with_reducible refine s_var rfl ?_
  | with_reducible refine s_c ?_
  | with_reducible refine s_op ?_
  | with_reducible refine s_cons ?_
  | with_reducible refine s_nil ?_
  | with_reducible refine s_cb ?_
  | with_reducible refine s_i0 ?_
  | with_reducible refine s_eqI ?_
  | with_reducible refine s_seq ?_
  | with_reducible refine s_asg ?_
  | with_reducible refine s_gname ?_
  | with_reducible refine s_int ?_
  | ((with_reducible refine' s_ic ?sda ?_); (case sda => walk_at "sd"))
  | with_reducible refine s_ret ?_
  | with_reducible refine s_if ?_
  | with_reducible refine s_test ?_
  | with_reducible refine s_bl ?_
  | with_reducible refine s_nx ?_
  | with_reducible refine s_rt ?_
  | with_reducible refine s_drop ?_
  | with_reducible refine s_next ?_
  | with_reducible refine s_call ?_
  | with_reducible refine s_lst ?_
  | with_reducible refine s_tup ?_
  | with_reducible refine s_sub ?_
  | with_reducible refine s_itt ?_
  | with_reducible refine s_itf ?_
  | with_reducible refine s_and ?_
  | with_reducible refine s_or ?_
  | with_reducible refine s_notT ?_
  | with_reducible refine s_tb ?_
  | with_reducible refine s_rb ?_
  | with_reducible refine s_notV ?_
  | with_reducible refine s_andV ?_
  | with_reducible refine s_orV ?_
  | with_reducible refine s_ifE ?_
  | with_reducible refine s_isN ?_
  | with_reducible refine s_notN ?_
  | with_reducible refine s_dget ?_
  | with_reducible refine s_din ?_
  | with_reducible refine s_dnin ?_
  | with_reducible refine s_dput ?_
  | with_reducible refine s_fld ?_
  | with_reducible refine s_fldS ?_
  | with_reducible refine s_me ?_
  | with_reducible refine s_gown ?_
  | with_reducible refine s_try ?_
  | with_reducible refine s_bm ?_
  | with_reducible refine s_forL ?_
  | with_reducible refine s_forT ?_
  | with_reducible refine s_forR ?_
  | with_reducible refine s_forR2 ?_
  | with_reducible refine s_lc0 ?_
  | with_reducible refine s_ifbT rfl ?_
  | with_reducible refine s_ifbF rfl ?_
  | ((with_reducible refine' s_isT ?sda ?_); (case sda => walk_at "ty"))
  | ((with_reducible refine' s_ixl ?sda ?sdb ?_); (case sda => walk_at "lk"); (case sdb => walk_at "at"))
  | ((with_reducible refine' s_ixt ?sda ?sdb ?_); (case sda => walk_at "lk"); (case sdb => walk_at "at"))
  | ((with_reducible refine' s_lenl ?sda ?_); (case sda => walk_at "lk"))
  | ((with_reducible refine' s_lent ?sda ?_); (case sda => walk_at "lk"))
  | ((with_reducible refine' s_setl ?sda ?sdb ?_); (case sda => walk_at "lk"); (case sdb => walk_at "at"); (intro _ _ _))
  | ((with_reducible refine' s_fldv ?sda ?sdb ?sdc ?_); (case sda => walk_at "lk"); (case sdb => exact List.mem_cons_self); (case sdc => exact rfl))
  | ((with_reducible refine' s_fldSv ?sda ?sdb ?sdc ?_); (case sda => walk_at "lk"); (case sdb => exact List.mem_cons_self); (case sdc => first | decide | simp); (intro _ _ _))
  | ((with_reducible refine' s_mev ?sda ?_); (case sda => walk_at "lk"))
  | ((with_reducible refine' s_gownv ?sda ?_); (case sda => walk_at "lk"))
  | ((with_reducible refine' s_tyl ?sda ?_); (case sda => walk_at "lk"))
  | ((with_reducible refine' s_dinS ?sda ?_); (case sda => walk_at "lk"))
  | ((with_reducible refine' s_dninS ?sda ?_); (case sda => walk_at "lk"))
  | with_reducible refine s_eq rfl ?_
  | with_reducible refine s_ne rfl ?_
  | with_reducible refine s_raiseX ?_
  | with_reducible refine s_rt0 ?_)
local macro_rules | `(tactic| walk_at "ty") => `(tactic| first | exact rfl | exact ty_l (by walk_at "lk") | exact ty_t (by walk_at "lk"))
local macro_rules | `(tactic| walk_at "w") => `(tactic| repeat (walk_at "w1"))

variable {K : PySem.W.Frag}
theorem pT_same (vs : List V) (H : Hp) (Q : VK) (E : XK) (h : sp__law_same 0 vs H Q E) : tT__law_same K (fun cls d _ H => E cls d H) { nx := fun _ H' => Q .non H', rt := Q } (start N__law_same vs) H := by
  obtain ⟨x, y, d, e, rfl, hx, hy, dd, de, q⟩ := h
  show tT__law_same K _ _ [some _, some _, none, none] H
  unfold tT__law_same
  cases d <;> cases e <;> simp only [Dv] at hx hy
  all_goals
    first
    | (simp only [Dat.dep] at dd; omega)
    | (simp only [Dat.dep] at de; omega)
    | (subst hx
       subst hy
       walk_at "w"
       refine q _ ?_
       simp)
end L51


set_option maxHeartbeats 0
namespace L51
open PySem PySem.Spec PyProof.Rows L2 U
abbrev R : PySem.W.OpenRow := PySem.W.OpenLaw.row PySem.Challenge.rw_slotlag_k51_store_pairs
theorem same_up {n m : Nat} {vs : List V} {H : Hp} {Q : VK} {E : XK} (h : n ≤ m) (z : sp__law_same n vs H Q E) : sp__law_same m vs H Q E := by
  obtain ⟨x, y, d, e, r, hx, hy, dd, de, q⟩ := z
  exact ⟨x, y, d, e, r, hx, hy, Nat.le_trans dd h, Nat.le_trans de h, q⟩

theorem ok__law_start {P : Program} {w : World} {K : PySem.W.Frag} {mg : Str → Option Value} {base : Heap} (B : Blt mg) {f : Addr} {fd : FuncData} (F : FunD K "_law_start" "_law_start" (defArgs s__law_start) (defBody s__law_start) (defScope s__law_start) [] [] f fd) : FnOk P w K mg base (L2N.CX P w) 1 f fd p__law_start (sp__law_start K) :=
  U.ok_mk (t := t__law_start K) F sc__law_start (by intro vs H Q E h; repeat (first | (obtain ⟨rfl, _⟩ := h; rfl) | (obtain ⟨_, h⟩ := h))) (fun cdv A outer s H E W hr tk => d__law_start B  cdv A outer s H E W hr tk) (fun vs H Q E h => p_start vs H Q E h)
theorem ok__law_mixed {P : Program} {w : World} {K : PySem.W.Frag} {mg : Str → Option Value} {base : Heap} (B : Blt mg) {f : Addr} {fd : FuncData} (F : FunD K "_law_mixed" "_law_mixed" (defArgs s__law_mixed) (defBody s__law_mixed) (defScope s__law_mixed) [] [] f fd) : FnOk P w K mg base (L2N.CX P w) 1 f fd p__law_mixed (sp__law_mixed K) :=
  U.ok_mk (t := t__law_mixed K) F sc__law_mixed (by intro vs H Q E h; repeat (first | (obtain ⟨rfl, _⟩ := h; rfl) | (obtain ⟨_, h⟩ := h))) (fun cdv A outer s H E W hr tk => d__law_mixed B  cdv A outer s H E W hr tk) (fun vs H Q E h => p_mixed vs H Q E h)
theorem ok__law_draw {P : Program} {w : World} {K : PySem.W.Frag} {mg : Str → Option Value} {base : Heap} (B : Blt mg) (F__law_mixed : Fn P w K mg base "_law_mixed" 1 (sp__law_mixed K)) {f : Addr} {fd : FuncData} (F : FunD K "_law_draw" "_law_draw" (defArgs s__law_draw) (defBody s__law_draw) (defScope s__law_draw) [] [] f fd) : FnOk P w K mg base (L2N.CX P w) 2 f fd p__law_draw (sp__law_draw K) :=
  U.ok_mk (t := t__law_draw K) F sc__law_draw (by intro vs H Q E h; repeat (first | (obtain ⟨rfl, _⟩ := h; rfl) | (obtain ⟨_, h⟩ := h))) (fun cdv A outer s H E W hr tk => d__law_draw B F__law_mixed cdv A outer s H E W hr tk) (fun vs H Q E h => p_draw vs H Q E h)
theorem ok__law_word {P : Program} {w : World} {K : PySem.W.Frag} {mg : Str → Option Value} {base : Heap} (B : Blt mg) (F__law_draw : Fn P w K mg base "_law_draw" 2 (sp__law_draw K)) {f : Addr} {fd : FuncData} (F : FunD K "_law_word" "_law_word" (defArgs s__law_word) (defBody s__law_word) (defScope s__law_word) [] [] f fd) : FnOk P w K mg base (L2N.CX P w) 3 f fd p__law_word (sp__law_word K) :=
  U.ok_mk (t := t__law_word K) F sc__law_word (by intro vs H Q E h; repeat (first | (obtain ⟨rfl, _⟩ := h; rfl) | (obtain ⟨_, h⟩ := h))) (fun cdv A outer s H E W hr tk => d__law_word B F__law_draw cdv A outer s H E W hr tk) (fun vs H Q E h => p_word vs H Q E h)
theorem ok__law_value {P : Program} {w : World} {K : PySem.W.Frag} {mg : Str → Option Value} {base : Heap} (B : Blt mg) (F__law_draw : Fn P w K mg base "_law_draw" 2 (sp__law_draw K)) {f : Addr} {fd : FuncData} (F : FunD K "_law_value" "_law_value" (defArgs s__law_value) (defBody s__law_value) (defScope s__law_value) [] [] f fd) : FnOk P w K mg base (L2N.CX P w) 3 f fd p__law_value (sp__law_value K) :=
  U.ok_mk (t := t__law_value K) F sc__law_value (by intro vs H Q E h; repeat (first | (obtain ⟨rfl, _⟩ := h; rfl) | (obtain ⟨_, h⟩ := h))) (fun cdv A outer s H E W hr tk => d__law_value B F__law_draw cdv A outer s H E W hr tk) (fun vs H Q E h => p_value vs H Q E h)
theorem ok_same {P : Program} {w : World} {K : PySem.W.Frag} {mg : Str → Option Value} {base : Heap} (B : Blt mg) {f : Addr} {fd : FuncData} (hm : mg "_law_same" = some (.ref f)) (F : FunD K "_law_same" "_law_same" (defArgs s__law_same) (defBody s__law_same) (defScope s__law_same) [] [] f fd) : ∀ n, Fn P w K mg base "_law_same" (n + 1) (sp__law_same n)
  | 0 => U.fn_of F hm (fun _ _ _ _ _ _ us hl => match us, hl with | [_, _], _ => rfl) (U.ok_mk (t := fun W => t__law_same K W spNo) F sc__law_same (by intro vs H Q E h; repeat (first | (obtain ⟨rfl, _⟩ := h; rfl) | (obtain ⟨_, h⟩ := h))) (fun cdv A outer s H E W hr tk => d__law_same B (U.fn_of (ps := p__law_same) F hm (fun _ _ _ _ _ _ us hl => match us, hl with | [_, _], _ => rfl) U.ok_no)  cdv A outer s H E W hr tk) (fun vs H Q E h => p_same 0 (fun m h => absurd h (by omega)) vs H Q E h))
  | n + 1 => U.fn_of F hm (fun _ _ _ _ _ _ us hl => match us, hl with | [_, _], _ => rfl) (U.ok_mk (t := fun W => t__law_same K W (sp__law_same n)) F sc__law_same (by intro vs H Q E h; repeat (first | (obtain ⟨rfl, _⟩ := h; rfl) | (obtain ⟨_, h⟩ := h))) (fun cdv A outer s H E W hr tk => d__law_same B (ok_same B  hm F n)  cdv A outer s H E W hr tk) (fun vs H Q E h => p_same (n + 1) (fun m h vs H Q E z => same_up (by omega) z) vs H Q E h))
theorem okT_same {P : Program} {w : World} {K : PySem.W.Frag} {mg : Str → Option Value} {base : Heap} (B : Blt mg) {f : Addr} {fd : FuncData} (hm : mg "_law_same" = some (.ref f)) (F : FunD K "_law_same" "_law_same" (defArgs s__law_same) (defBody s__law_same) (defScope s__law_same) [] [] f fd) : FnT P w K mg base "_law_same" 1 (sp__law_same 0) := U.fnT_mk (t := tT__law_same K) F hm sc__law_same (fun _ _ _ _ _ _ us hl => match us, hl with | [_, _], _ => rfl) (by intro vs H Q E h; repeat (first | (obtain ⟨rfl, _⟩ := h; rfl) | (obtain ⟨_, h⟩ := h))) (fun cdv A outer s H E p hot hr => dT__law_same B  cdv A outer s H E p hot hr) (fun vs H Q E h => pT_same vs H Q E h)
theorem ok_Store___init__ {P : Program} {w : World} {K : PySem.W.Frag} {mg : Str → Option Value} {base : Heap} (B : Blt mg) (fl_Store__pairs : Fld K [(He.ga K "Store")] ks_Store 0 "_pairs") {f : Addr} {fd : FuncData} (F : FunD K "__init__" "Store.__init__" (defArgs s_Store___init__) (defBody s_Store___init__) (defScope s_Store___init__) [] [] f fd) : FnOk P w K mg base (L2N.CX P w) 1 f fd p_Store___init__ (sp_Store___init__ K) :=
  U.ok_mk (t := t_Store___init__ K) F sc_Store___init__ (by intro vs H Q E h; repeat (first | (obtain ⟨rfl, _⟩ := h; rfl) | (obtain ⟨_, h⟩ := h))) (fun cdv A outer s H E W hr tk => d_Store___init__ B fl_Store__pairs cdv A outer s H E W hr tk) (fun vs H Q E h => p_S_init vs H Q E h)
theorem ok_Store___setitem__ {P : Program} {w : World} {K : PySem.W.Frag} {mg : Str → Option Value} {base : Heap} (B : Blt mg) (fl_Store__pairs : Fld K [(He.ga K "Store")] ks_Store 0 "_pairs") {f : Addr} {fd : FuncData} (F : FunD K "__setitem__" "Store.__setitem__" (defArgs s_Store___setitem__) (defBody s_Store___setitem__) (defScope s_Store___setitem__) [] [] f fd) : FnOk P w K mg base (L2N.CX P w) 1 f fd p_Store___setitem__ (sp_Store___setitem__ K) :=
  U.ok_mk (t := t_Store___setitem__ K) F sc_Store___setitem__ (by intro vs H Q E h; repeat (first | (obtain ⟨rfl, _⟩ := h; rfl) | (obtain ⟨_, h⟩ := h))) (fun cdv A outer s H E W hr tk => d_Store___setitem__ B fl_Store__pairs cdv A outer s H E W hr tk) (fun vs H Q E h => p_S_set vs H Q E h)
theorem ok_Store___getitem__ {P : Program} {w : World} {K : PySem.W.Frag} {mg : Str → Option Value} {base : Heap} (B : Blt mg) (fl_Store__pairs : Fld K [(He.ga K "Store")] ks_Store 0 "_pairs") (xt_NoKey : UX.XT P K (He.ga K "NoKey") (He.ga K "NoKey") (He.ma K (He.ga K "NoKey") "__init__") "key") (b_super : mg "super" = none) (g_NoKey : mg "NoKey" = some (.ref (He.ga K "NoKey"))) {f : Addr} {fd : FuncData} (F : FunD K "__getitem__" "Store.__getitem__" (defArgs s_Store___getitem__) (defBody s_Store___getitem__) (defScope s_Store___getitem__) [] [] f fd) : FnOk P w K mg base (L2N.CX P w) 2 f fd p_Store___getitem__ (sp_Store___getitem__ K) :=
  U.ok_mk (t := t_Store___getitem__ K) F sc_Store___getitem__ (by intro vs H Q E h; repeat (first | (obtain ⟨rfl, _⟩ := h; rfl) | (obtain ⟨_, h⟩ := h))) (fun cdv A outer s H E W hr tk => d_Store___getitem__ B fl_Store__pairs xt_NoKey b_super g_NoKey cdv A outer s H E W hr tk) (fun vs H Q E h => p_S_get vs H Q E h)
theorem ok_Store___contains__ {P : Program} {w : World} {K : PySem.W.Frag} {mg : Str → Option Value} {base : Heap} (B : Blt mg) (fl_Store__pairs : Fld K [(He.ga K "Store")] ks_Store 0 "_pairs") {f : Addr} {fd : FuncData} (F : FunD K "__contains__" "Store.__contains__" (defArgs s_Store___contains__) (defBody s_Store___contains__) (defScope s_Store___contains__) [] [] f fd) : FnOk P w K mg base (L2N.CX P w) 1 f fd p_Store___contains__ (sp_Store___contains__ K) :=
  U.ok_mk (t := t_Store___contains__ K) F sc_Store___contains__ (by intro vs H Q E h; repeat (first | (obtain ⟨rfl, _⟩ := h; rfl) | (obtain ⟨_, h⟩ := h))) (fun cdv A outer s H E W hr tk => d_Store___contains__ B fl_Store__pairs cdv A outer s H E W hr tk) (fun vs H Q E h => p_S_in vs H Q E h)
theorem ok_Store___len__ {P : Program} {w : World} {K : PySem.W.Frag} {mg : Str → Option Value} {base : Heap} (B : Blt mg) (fl_Store__pairs : Fld K [(He.ga K "Store")] ks_Store 0 "_pairs") {f : Addr} {fd : FuncData} (F : FunD K "__len__" "Store.__len__" (defArgs s_Store___len__) (defBody s_Store___len__) (defScope s_Store___len__) [] [] f fd) : FnOk P w K mg base (L2N.CX P w) 1 f fd p_Store___len__ (sp_Store___len__ K) :=
  U.ok_mk (t := t_Store___len__ K) F sc_Store___len__ (by intro vs H Q E h; repeat (first | (obtain ⟨rfl, _⟩ := h; rfl) | (obtain ⟨_, h⟩ := h))) (fun cdv A outer s H E W hr tk => d_Store___len__ B fl_Store__pairs cdv A outer s H E W hr tk) (fun vs H Q E h => p_S_len vs H Q E h)
theorem ok_Store___iter__ {P : Program} {w : World} {K : PySem.W.Frag} {mg : Str → Option Value} {base : Heap} (B : Blt mg) (fl_Store__pairs : Fld K [(He.ga K "Store")] ks_Store 0 "_pairs") (b_iter : mg "iter" = none) {f : Addr} {fd : FuncData} (F : FunD K "__iter__" "Store.__iter__" (defArgs s_Store___iter__) (defBody s_Store___iter__) (defScope s_Store___iter__) [] [] f fd) : FnOk P w K mg base (L2N.CX P w) 1 f fd p_Store___iter__ (sp_Store___iter__ K) :=
  U.ok_mk (t := t_Store___iter__ K) F sc_Store___iter__ (by intro vs H Q E h; repeat (first | (obtain ⟨rfl, _⟩ := h; rfl) | (obtain ⟨_, h⟩ := h))) (fun cdv A outer s H E W hr tk => d_Store___iter__ B fl_Store__pairs b_iter cdv A outer s H E W hr tk) (fun vs H Q E h => p_S_iter vs H Q E h)
theorem ok_Store_rows {P : Program} {w : World} {K : PySem.W.Frag} {mg : Str → Option Value} {base : Heap} (B : Blt mg) (fl_Store__pairs : Fld K [(He.ga K "Store")] ks_Store 0 "_pairs") {f : Addr} {fd : FuncData} (F : FunD K "rows" "Store.rows" (defArgs s_Store_rows) (defBody s_Store_rows) (defScope s_Store_rows) [] [] f fd) : FnOk P w K mg base (L2N.CX P w) 1 f fd p_Store_rows (sp_Store_rows K) :=
  U.ok_mk (t := t_Store_rows K) F sc_Store_rows (by intro vs H Q E h; repeat (first | (obtain ⟨rfl, _⟩ := h; rfl) | (obtain ⟨_, h⟩ := h))) (fun cdv A outer s H E W hr tk => d_Store_rows B fl_Store__pairs cdv A outer s H E W hr tk) (fun vs H Q E h => p_S_rows vs H Q E h)
theorem ok__law_set {P : Program} {w : World} {K : PySem.W.Frag} {mg : Str → Option Value} {base : Heap} (B : Blt mg) {f : Addr} {fd : FuncData} (F : FunD K "_law_set" "_law_set" (defArgs s__law_set) (defBody s__law_set) (defScope s__law_set) [] [] f fd) : FnOk P w K mg base (L2N.CX P w) 1 f fd p__law_set (sp__law_set K) :=
  U.ok_mk (t := t__law_set K) F sc__law_set (by intro vs H Q E h; repeat (first | (obtain ⟨rfl, _⟩ := h; rfl) | (obtain ⟨_, h⟩ := h))) (fun cdv A outer s H E W hr tk => d__law_set B  cdv A outer s H E W hr tk) (fun vs H Q E h => p_set vs H Q E h)
theorem ok__law_found {P : Program} {w : World} {K : PySem.W.Frag} {mg : Str → Option Value} {base : Heap} (B : Blt mg) (M_Store___getitem__ : Met P w K mg base (He.ga K "Store") "__getitem__" 2 (sp_Store___getitem__ K)) (g_SlotError : mg "SlotError" = some (.ref (He.ga K "SlotError"))) (xf_NoKey : XF K (He.ga K "NoKey")) (na_NoKey_key : PySem.W.findIn K (.ref (He.ga K "NoKey")) "key" = some none) (T__law_same : FnT P w K mg base "_law_same" 1 (sp__law_same 0)) (g_NoKey : mg "NoKey" = some (.ref (He.ga K "NoKey"))) (he : PySem.W.exmOne K (.ref (He.ga K "NoKey")) (.ref (He.ga K "NoKey")) = some true) (hk : PySem.W.kitOne K (.ref (He.ga K "NoKey")) (.ref (He.ga K "SlotError")) = some true) {f : Addr} {fd : FuncData} (F : FunD K "_law_found" "_law_found" (defArgs s__law_found) (defBody s__law_found) (defScope s__law_found) [] [] f fd) : FnOk P w K mg base (L2N.CX P w) 4 f fd p__law_found (sp__law_found K) :=
  U.ok_mk (t := t__law_found K) F sc__law_found (by intro vs H Q E h; repeat (first | (obtain ⟨rfl, _⟩ := h; rfl) | (obtain ⟨_, h⟩ := h))) (fun cdv A outer s H E W hr tk => d__law_found B M_Store___getitem__ g_SlotError xf_NoKey na_NoKey_key T__law_same g_NoKey cdv A outer s H E W hr tk) (fun vs H Q E h => p_found he hk vs H Q E h)
theorem ok__law_tells {P : Program} {w : World} {K : PySem.W.Frag} {mg : Str → Option Value} {base : Heap} (B : Blt mg) (M_Store_rows : Met P w K mg base (He.ga K "Store") "rows" 1 (sp_Store_rows K)) (F__law_same : Fn P w K mg base "_law_same" 3 (sp__law_same 2)) (M_Store___iter__ : Met P w K mg base (He.ga K "Store") "__iter__" 1 (sp_Store___iter__ K)) (M_Store___len__ : Met P w K mg base (He.ga K "Store") "__len__" 1 (sp_Store___len__ K)) (M_Store___contains__ : Met P w K mg base (He.ga K "Store") "__contains__" 1 (sp_Store___contains__ K)) (F__law_found : Fn P w K mg base "_law_found" 4 (sp__law_found K)) {f : Addr} {fd : FuncData} (F : FunD K "_law_tells" "_law_tells" (defArgs s__law_tells) (defBody s__law_tells) (defScope s__law_tells) [] [] f fd) : FnOk P w K mg base (L2N.CX P w) 7 f fd p__law_tells (sp__law_tells K) :=
  U.ok_mk (t := t__law_tells K) F sc__law_tells (by intro vs H Q E h; repeat (first | (obtain ⟨rfl, _⟩ := h; rfl) | (obtain ⟨_, h⟩ := h))) (fun cdv A outer s H E W hr tk => d__law_tells B M_Store_rows F__law_same M_Store___iter__ M_Store___len__ M_Store___contains__ F__law_found cdv A outer s H E W hr tk) (fun vs H Q E h => p_tells vs H Q E h)
theorem ok_law {P : Program} {w : World} {K : PySem.W.Frag} {mg : Str → Option Value} {base : Heap} (B : Blt mg) (F__law_start : Fn P w K mg base "_law_start" 1 (sp__law_start K)) (F__law_word : Fn P w K mg base "_law_word" 3 (sp__law_word K)) (K_Store : Mkr P w K mg base "Store" (He.ga K "Store") 1 (sp_Store___init__ K)) (F__law_tells : Fn P w K mg base "_law_tells" 7 (sp__law_tells K)) (F__law_draw : Fn P w K mg base "_law_draw" 2 (sp__law_draw K)) (F__law_value : Fn P w K mg base "_law_value" 3 (sp__law_value K)) (M_Store___setitem__ : Met P w K mg base (He.ga K "Store") "__setitem__" 1 (sp_Store___setitem__ K)) (nq_Store : PySem.W.noSeq K (He.ga K "Store") = true) (F__law_set : Fn P w K mg base "_law_set" 1 (sp__law_set K)) {f : Addr} {fd : FuncData} (F : FunD K "law" "law" (defArgs s_law) (defBody s_law) (defScope s_law) [] [] f fd) : FnOk P w K mg base (L2N.CX P w) 8 f fd p_law (sp_law K) :=
  U.ok_mk (t := t_law K) F sc_law (by intro vs H Q E h; repeat (first | (obtain ⟨rfl, _⟩ := h; rfl) | (obtain ⟨_, h⟩ := h))) (fun cdv A outer s H E W hr tk => d_law B F__law_start F__law_word K_Store F__law_tells F__law_draw F__law_value M_Store___setitem__ nq_Store F__law_set cdv A outer s H E W hr tk) (fun vs H Q E h => r_law vs H Q E h)
end L51


set_option maxHeartbeats 0
namespace L51
open PySem PySem.Spec PyProof.Rows L2 U

def dd__law_start : He.DefD := ⟨("_law_start", none), "_law_start", "_law_start", defArgs s__law_start, defBody s__law_start, defScope s__law_start, [], []⟩
def dd__law_mixed : He.DefD := ⟨("_law_mixed", none), "_law_mixed", "_law_mixed", defArgs s__law_mixed, defBody s__law_mixed, defScope s__law_mixed, [], []⟩
def dd__law_draw : He.DefD := ⟨("_law_draw", none), "_law_draw", "_law_draw", defArgs s__law_draw, defBody s__law_draw, defScope s__law_draw, [], []⟩
def dd__law_word : He.DefD := ⟨("_law_word", none), "_law_word", "_law_word", defArgs s__law_word, defBody s__law_word, defScope s__law_word, [], []⟩
def dd__law_value : He.DefD := ⟨("_law_value", none), "_law_value", "_law_value", defArgs s__law_value, defBody s__law_value, defScope s__law_value, [], []⟩
def dd__law_same : He.DefD := ⟨("_law_same", none), "_law_same", "_law_same", defArgs s__law_same, defBody s__law_same, defScope s__law_same, [], []⟩
def dd_Store___init__ : He.DefD := ⟨("Store", some "__init__"), "__init__", "Store.__init__", defArgs s_Store___init__, defBody s_Store___init__, defScope s_Store___init__, [], []⟩
def dd_Store___setitem__ : He.DefD := ⟨("Store", some "__setitem__"), "__setitem__", "Store.__setitem__", defArgs s_Store___setitem__, defBody s_Store___setitem__, defScope s_Store___setitem__, [], []⟩
def dd_Store___getitem__ : He.DefD := ⟨("Store", some "__getitem__"), "__getitem__", "Store.__getitem__", defArgs s_Store___getitem__, defBody s_Store___getitem__, defScope s_Store___getitem__, [], []⟩
def xd_NoKey : UH.XD := ⟨"NoKey", "NoKey", "key", "NoKey.__init__", inClass (top 2) 0⟩
theorem xx_NoKey : UH.XText xd_NoKey "key is not set" := ⟨⟨_, _, _, _, _, _, _, _, _, _, _, _, rfl, rfl, _, fun _ => rfl⟩, rfl, by decide +kernel, by decide +kernel, by decide +kernel, by decide +kernel, fun _ _ _ _ _ _ _ _ _ _ _ _ _ => rfl⟩
def dd_Store___contains__ : He.DefD := ⟨("Store", some "__contains__"), "__contains__", "Store.__contains__", defArgs s_Store___contains__, defBody s_Store___contains__, defScope s_Store___contains__, [], []⟩
def dd_Store___len__ : He.DefD := ⟨("Store", some "__len__"), "__len__", "Store.__len__", defArgs s_Store___len__, defBody s_Store___len__, defScope s_Store___len__, [], []⟩
def dd_Store___iter__ : He.DefD := ⟨("Store", some "__iter__"), "__iter__", "Store.__iter__", defArgs s_Store___iter__, defBody s_Store___iter__, defScope s_Store___iter__, [], []⟩
def dd_Store_rows : He.DefD := ⟨("Store", some "rows"), "rows", "Store.rows", defArgs s_Store_rows, defBody s_Store_rows, defScope s_Store_rows, [], []⟩
def dd__law_set : He.DefD := ⟨("_law_set", none), "_law_set", "_law_set", defArgs s__law_set, defBody s__law_set, defScope s__law_set, [], []⟩
def dd__law_found : He.DefD := ⟨("_law_found", none), "_law_found", "_law_found", defArgs s__law_found, defBody s__law_found, defScope s__law_found, [], []⟩
def dd__law_tells : He.DefD := ⟨("_law_tells", none), "_law_tells", "_law_tells", defArgs s__law_tells, defBody s__law_tells, defScope s__law_tells, [], []⟩
def dd_law : He.DefD := ⟨("law", none), "law", "law", defArgs s_law, defBody s_law, defScope s_law, [], []⟩
def nm0 : List PySem.Str := ["SlotError", "NoKey", "Store", "_law_same", "_law_start", "_law_mixed", "_law_draw", "_law_word", "_law_value", "_law_set", "_law_found", "_law_tells"]
def nms : List PySem.Str := nm0
def fn : List He.DefD := [dd__law_start, dd__law_mixed, dd__law_draw, dd__law_word, dd__law_value, dd__law_same, dd_Store___init__, dd_Store___setitem__, dd_Store___getitem__, dd_Store___contains__, dd_Store___len__, dd_Store___iter__, dd_Store_rows, dd__law_set, dd__law_found, dd__law_tells, dd_law]
def fa : List He.Fa := [.glo "_law_start", .glo "_law_mixed", .glo "_law_draw", .glo "_law_word", .glo "_law_value", .glo "_law_same", .cls "Store", .noat "Store" "_pairs", .glo "Store", .mkr "Store", .meth "Store" "__setitem__", .free "super", .glo "NoKey", .meth "Store" "__getitem__", .meth "Store" "__contains__", .meth "Store" "__len__", .free "iter", .meth "Store" "__iter__", .meth "Store" "rows", .glo "_law_set", .glo "SlotError", .exm "NoKey" "NoKey" true, .glo "_law_found", .glo "_law_tells", .free "int", .free "len", .free "range", .free "list", .free "isinstance", .free "tuple", .free "dict", .free "str", .free "bool", .glo "law"]
def fb : List (PySem.W.Frag → Bool) := [UH.fnInOk "Store" "__setitem__", UH.fnInOk "Store" "__getitem__", UH.fnInOk "Store" "__contains__", UH.fnInOk "Store" "__len__", UH.fnInOk "Store" "__iter__", UH.fnInOk "Store" "rows", UH.xfOk "NoKey", UH.kitOk "NoKey" "SlotError" true, UH.noSeqOk "Store"]
def xs : List UH.XD := [xd_NoKey]
abbrev hk : PySem.W.Hook := UH.hookH 4 fa fb fn xs R.prog.main.file
def ob (s : PySem.W.SharedT) : UH.AlX := UH.obsHG 4 fa fb fn xs R.prog.main.file (HandSHeadRun.getT s)
theorem ob_eq (s : PySem.W.SharedT) : ob s = hk.obs s.abs := UH.obsHG_eq (HandSHeadRun.getT_eq s)
theorem run (w : World) : HandSHeadRun.RunEq R (PySem.W.view R.prog [15]) hk ob 20000 nms w := by
  intro os
  kernel_rfl
end L51


set_option maxHeartbeats 0
namespace L51
open PySem PySem.Spec PyProof.Rows L2 U

theorem facts {w : World} {K : PySem.W.Frag} {h : Heap} {mg : Str → Option Value} {f : Addr} (X : K.In h) (G : h.Ns mainGlobals mg) (hfa : mg ("law" : Str) = some (.ref f)) (c : UH.SaysH fa fb fn xs R.prog.main.file K) :
    ∃ fd : FuncData, (∀ (s : Shared) (v : Value), BindsTo s fd ⟨[v], []⟩ [("_law_script", v)]) ∧ ∀ base : Heap, K.In base → base.Ns mainGlobals mg → FnOk R.prog w K mg base CX0 8 f fd ["_law_script"] (sp_law K) := by
  have hlaw := hfa.symm.trans (He.glo_ok X G (c.fact 33))
  cases hlaw
  have B : Blt mg := ⟨(He.free_ok X G (c.fact 24)), (He.free_ok X G (c.fact 25)), (He.free_ok X G (c.fact 26)), (He.free_ok X G (c.fact 27)), (He.free_ok X G (c.fact 28)), (He.free_ok X G (c.fact 29)), (He.free_ok X G (c.fact 30)), (He.free_ok X G (c.fact 31)), (He.free_ok X G (c.fact 32))⟩
  suffices z : ∃ fd : FuncData, (∀ (s : Shared) (v : Value), BindsTo s fd ⟨[v], []⟩ [("_law_script", v)]) ∧ ∀ (P : Program) (base : Heap), P = R.prog → FnOk P w K mg base CX0 8 (He.ga K "law") fd ["_law_script"] (sp_law K) by
    obtain ⟨fd, z1, z2⟩ := z
    exact ⟨fd, z1, fun base _ _ => z2 R.prog base rfl⟩
  obtain ⟨fd__law_start, D__law_start⟩ := c.def_ 0 (d := dd__law_start) rfl
  obtain ⟨fd__law_mixed, D__law_mixed⟩ := c.def_ 1 (d := dd__law_mixed) rfl
  obtain ⟨fd__law_draw, D__law_draw⟩ := c.def_ 2 (d := dd__law_draw) rfl
  obtain ⟨fd__law_word, D__law_word⟩ := c.def_ 3 (d := dd__law_word) rfl
  obtain ⟨fd__law_value, D__law_value⟩ := c.def_ 4 (d := dd__law_value) rfl
  obtain ⟨fd__law_same, D__law_same⟩ := c.def_ 5 (d := dd__law_same) rfl
  obtain ⟨fd_Store___init__, D_Store___init__⟩ := c.def_ 6 (d := dd_Store___init__) rfl
  obtain ⟨fd_Store___setitem__, D_Store___setitem__⟩ := c.def_ 7 (d := dd_Store___setitem__) rfl
  obtain ⟨fd_Store___getitem__, D_Store___getitem__⟩ := c.def_ 8 (d := dd_Store___getitem__) rfl
  obtain ⟨fd_Store___contains__, D_Store___contains__⟩ := c.def_ 9 (d := dd_Store___contains__) rfl
  obtain ⟨fd_Store___len__, D_Store___len__⟩ := c.def_ 10 (d := dd_Store___len__) rfl
  obtain ⟨fd_Store___iter__, D_Store___iter__⟩ := c.def_ 11 (d := dd_Store___iter__) rfl
  obtain ⟨fd_Store_rows, D_Store_rows⟩ := c.def_ 12 (d := dd_Store_rows) rfl
  obtain ⟨fd__law_set, D__law_set⟩ := c.def_ 13 (d := dd__law_set) rfl
  obtain ⟨fd__law_found, D__law_found⟩ := c.def_ 14 (d := dd__law_found) rfl
  obtain ⟨fd__law_tells, D__law_tells⟩ := c.def_ 15 (d := dd__law_tells) rfl
  obtain ⟨fd_law, D_law⟩ := c.def_ 16 (d := dd_law) rfl
  refine ⟨fd_law, fun s v => FunD.bindsA (ps := ["_law_script"]) D_law (fun _ _ _ _ _ _ us hl => match us, hl with | [_], _ => rfl) s [v] rfl, fun P base eP => ?_⟩
  subst eP
  have F__law_start : Fn R.prog w K mg base "_law_start" 1 (sp__law_start K) := U.fn_of D__law_start (He.glo_ok X G (c.fact 0)) (fun _ _ _ _ _ _ us hl => match us, hl with | [_], _ => rfl) (ok__law_start B  D__law_start)
  have F__law_mixed : Fn R.prog w K mg base "_law_mixed" 1 (sp__law_mixed K) := U.fn_of D__law_mixed (He.glo_ok X G (c.fact 1)) (fun _ _ _ _ _ _ us hl => match us, hl with | [_, _, _], _ => rfl) (ok__law_mixed B  D__law_mixed)
  have F__law_draw : Fn R.prog w K mg base "_law_draw" 2 (sp__law_draw K) := U.fn_of D__law_draw (He.glo_ok X G (c.fact 2)) (fun _ _ _ _ _ _ us hl => match us, hl with | [_, _], _ => rfl) (ok__law_draw B (F__law_mixed := F__law_mixed) D__law_draw)
  have F__law_word : Fn R.prog w K mg base "_law_word" 3 (sp__law_word K) := U.fn_of D__law_word (He.glo_ok X G (c.fact 3)) (fun _ _ _ _ _ _ us hl => match us, hl with | [_], _ => rfl) (ok__law_word B (F__law_draw := F__law_draw) D__law_word)
  have F__law_value : Fn R.prog w K mg base "_law_value" 3 (sp__law_value K) := U.fn_of D__law_value (He.glo_ok X G (c.fact 4)) (fun _ _ _ _ _ _ us hl => match us, hl with | [_], _ => rfl) (ok__law_value B (F__law_draw := F__law_draw) D__law_value)
  have F__law_same : Fn R.prog w K mg base "_law_same" 3 (sp__law_same 2) := ok_same B  (He.glo_ok X G (c.fact 5)) D__law_same 2
  have T__law_same : FnT R.prog w K mg base "_law_same" 1 (sp__law_same 0) := okT_same B  (He.glo_ok X G (c.fact 5)) D__law_same
  have K_Store : Mkr R.prog w K mg base "Store" (He.ga K "Store") 1 (sp_Store___init__ K) := U.mkr_of D_Store___init__ (He.glo_ok X G (c.fact 8)) (He.mkr_ok (c.fact 9)) (fun _ _ _ _ _ _ us hl => match us, hl with | [_], _ => rfl) (ok_Store___init__ B (fl_Store__pairs := ⟨by decide +kernel, rfl, by decide, fun C hC => by rw [List.mem_singleton.mp hC]; exact ⟨(He.cls_ok (c.fact 6)), (He.noat_ok (c.fact 7))⟩⟩) D_Store___init__)
  have M_Store___setitem__ : Met R.prog w K mg base (He.ga K "Store") "__setitem__" 1 (sp_Store___setitem__ K) := U.met_of D_Store___setitem__ (He.cls_ok (c.fact 6)) (He.meth_ok (c.fact 10)) (c.bool 0) (fun _ _ _ _ _ _ us hl => match us, hl with | [_, _, _], _ => rfl) (ok_Store___setitem__ B (fl_Store__pairs := ⟨by decide +kernel, rfl, by decide, fun C hC => by rw [List.mem_singleton.mp hC]; exact ⟨(He.cls_ok (c.fact 6)), (He.noat_ok (c.fact 7))⟩⟩) D_Store___setitem__)
  have M_Store___getitem__ : Met R.prog w K mg base (He.ga K "Store") "__getitem__" 2 (sp_Store___getitem__ K) := U.met_of D_Store___getitem__ (He.cls_ok (c.fact 6)) (He.meth_ok (c.fact 13)) (c.bool 1) (fun _ _ _ _ _ _ us hl => match us, hl with | [_, _], _ => rfl) (ok_Store___getitem__ B (fl_Store__pairs := ⟨by decide +kernel, rfl, by decide, fun C hC => by rw [List.mem_singleton.mp hC]; exact ⟨(He.cls_ok (c.fact 6)), (He.noat_ok (c.fact 7))⟩⟩) (xt_NoKey := (c.exc 0 (prog := R.prog) xx_NoKey (by decide +kernel))) (b_super := (He.free_ok X G (c.fact 11))) (g_NoKey := (He.glo_ok X G (c.fact 12))) D_Store___getitem__)
  have M_Store___contains__ : Met R.prog w K mg base (He.ga K "Store") "__contains__" 1 (sp_Store___contains__ K) := U.met_of D_Store___contains__ (He.cls_ok (c.fact 6)) (He.meth_ok (c.fact 14)) (c.bool 2) (fun _ _ _ _ _ _ us hl => match us, hl with | [_, _], _ => rfl) (ok_Store___contains__ B (fl_Store__pairs := ⟨by decide +kernel, rfl, by decide, fun C hC => by rw [List.mem_singleton.mp hC]; exact ⟨(He.cls_ok (c.fact 6)), (He.noat_ok (c.fact 7))⟩⟩) D_Store___contains__)
  have M_Store___len__ : Met R.prog w K mg base (He.ga K "Store") "__len__" 1 (sp_Store___len__ K) := U.met_of D_Store___len__ (He.cls_ok (c.fact 6)) (He.meth_ok (c.fact 15)) (c.bool 3) (fun _ _ _ _ _ _ us hl => match us, hl with | [_], _ => rfl) (ok_Store___len__ B (fl_Store__pairs := ⟨by decide +kernel, rfl, by decide, fun C hC => by rw [List.mem_singleton.mp hC]; exact ⟨(He.cls_ok (c.fact 6)), (He.noat_ok (c.fact 7))⟩⟩) D_Store___len__)
  have M_Store___iter__ : Met R.prog w K mg base (He.ga K "Store") "__iter__" 1 (sp_Store___iter__ K) := U.met_of D_Store___iter__ (He.cls_ok (c.fact 6)) (He.meth_ok (c.fact 17)) (c.bool 4) (fun _ _ _ _ _ _ us hl => match us, hl with | [_], _ => rfl) (ok_Store___iter__ B (fl_Store__pairs := ⟨by decide +kernel, rfl, by decide, fun C hC => by rw [List.mem_singleton.mp hC]; exact ⟨(He.cls_ok (c.fact 6)), (He.noat_ok (c.fact 7))⟩⟩) (b_iter := (He.free_ok X G (c.fact 16))) D_Store___iter__)
  have M_Store_rows : Met R.prog w K mg base (He.ga K "Store") "rows" 1 (sp_Store_rows K) := U.met_of D_Store_rows (He.cls_ok (c.fact 6)) (He.meth_ok (c.fact 18)) (c.bool 5) (fun _ _ _ _ _ _ us hl => match us, hl with | [_], _ => rfl) (ok_Store_rows B (fl_Store__pairs := ⟨by decide +kernel, rfl, by decide, fun C hC => by rw [List.mem_singleton.mp hC]; exact ⟨(He.cls_ok (c.fact 6)), (He.noat_ok (c.fact 7))⟩⟩) D_Store_rows)
  have F__law_set : Fn R.prog w K mg base "_law_set" 1 (sp__law_set K) := U.fn_of D__law_set (He.glo_ok X G (c.fact 19)) (fun _ _ _ _ _ _ us hl => match us, hl with | [_, _, _], _ => rfl) (ok__law_set B  D__law_set)
  have F__law_found : Fn R.prog w K mg base "_law_found" 4 (sp__law_found K) := U.fn_of D__law_found (He.glo_ok X G (c.fact 22)) (fun _ _ _ _ _ _ us hl => match us, hl with | [_, _], _ => rfl) (ok__law_found B (M_Store___getitem__ := M_Store___getitem__) (g_SlotError := (He.glo_ok X G (c.fact 20))) (xf_NoKey := (UH.xf_of (c.bool 6))) (na_NoKey_key := ((c.exc 0 (prog := R.prog) xx_NoKey (by decide +kernel))).noN) (T__law_same := T__law_same) (g_NoKey := (He.glo_ok X G (c.fact 12))) (He.exm_ok (c.fact 21)) (of_decide_eq_true (c.bool 7)) D__law_found)
  have F__law_tells : Fn R.prog w K mg base "_law_tells" 7 (sp__law_tells K) := U.fn_of D__law_tells (He.glo_ok X G (c.fact 23)) (fun _ _ _ _ _ _ us hl => match us, hl with | [_, _, _], _ => rfl) (ok__law_tells B (M_Store_rows := M_Store_rows) (F__law_same := F__law_same) (M_Store___iter__ := M_Store___iter__) (M_Store___len__ := M_Store___len__) (M_Store___contains__ := M_Store___contains__) (F__law_found := F__law_found) D__law_tells)
  have O : FnOk R.prog w K mg base (L2N.CX R.prog w) 8 _ fd_law p_law (sp_law K) := (ok_law B (F__law_start := F__law_start) (F__law_word := F__law_word) (K_Store := K_Store) (F__law_tells := F__law_tells) (F__law_draw := F__law_draw) (F__law_value := F__law_value) (M_Store___setitem__ := M_Store___setitem__) (nq_Store := (c.bool 8)) (F__law_set := F__law_set) D_law)
  exact U.ok_to0 O fun vs H Q E h => h
end L51
open PySem PySem.W PySem.Calls PyProof.Rows
theorem PySem.Challenge.cw_slotlag_k51_store_pairs_holds : PySem.Challenge.rw_slotlag_k51_store_pairs.Holds := by
  w_on; o_law
  refine HandSHeadRun.head_any (r := OpenLaw.row PySem.Challenge.rw_slotlag_k51_store_pairs) (q := view (OpenLaw.row PySem.Challenge.rw_slotlag_k51_store_pairs).prog [15]) (H := L51.hk) (ob := L51.ob) (M := 20000) (loose := L51.nms) (d := HandSHeadRun.topDef (OpenLaw.row PySem.Challenge.rw_slotlag_k51_store_pairs).prog 15) (kwd := []) L51.ob_eq
    (by kernel_rfl) (fun s => by kernel_rfl) L51.run (by kernel_rfl) (by kernel_rfl) (by kernel_rfl) (by rfl) (by first | assumption | decide +kernel) (by decide +kernel) ⟨rfl, rfl, rfl, rfl, rfl, by decide +kernel⟩ ?hw ?hc
  case hw => w_witness2
  case hc =>
    refine L2.walk_ofE (l := PySem.Challenge.rw_slotlag_k51_store_pairs) (n := 63) (k := 8) (x := "_law_script") (CX := L2.CX0) rfl (by decide) (by kernel_rfl) ⟨rfl, by decide, by decide⟩ ?F (fun _ _ _ _ z => z)
    intro w mg fa h Y G hmg0
    obtain ⟨K, KX, c⟩ := Y
    have hmg : mg ("law" : PySem.Str) = some (.ref fa) := by
      have e : (HandSHeadRun.topDef (OpenLaw.row PySem.Challenge.rw_slotlag_k51_store_pairs).prog 15).name = ("law" : PySem.Str) := by kernel_rfl
      rw [← e]
      exact hmg0
    obtain ⟨fd, hb, hF⟩ := L51.facts (w := w) KX G hmg c
    exact ⟨K, fd, L51.sp_law K, KX, hb, fun H a ns hl _ hS => ⟨a, ns, rfl, hS, fun _ => rfl⟩, hF⟩


