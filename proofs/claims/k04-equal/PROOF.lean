import PyProof.Rows.All
import Wide.All
import OpenK.AllK
import Wide.FinOn
import KE.KStateDown
import Lean
import HandS.ForMost
import HandS.ForExc
import HandS.Deep
import HandS.Defaults
import HandS.IsInst
import HandS.More
import HandS.Flow
import HandS.SetKeys
import HandS.Strs
import HandS.Sort
import HandS.SortInts
import HandS.SortRule
import HandS.TupAny
import HandS.TupLe
import HandS.Conv
import HandS.Rev
import HandS.DictTup
import HandS.RaiseOp
import HandS.Head0
import HandS.Head1
import HandS.Head2
import HandS.HeadEnd
import HandS.HeadHook1
import HandS.HeadHook2
import HandS.Codes
import HandS.HeadHook3
import HandS.WrittenGet
import KE.KDictPairs
import HandS.Lambda
import HandS.EndTab
import KE.SortKeyHeap
import KE.KSortKey
import KE.KSetDisp
import HandS.Set
import PyProof.SetRoads
import KE.KNestM
import HandS.Walk
import KE.GoesMore
import HandS.Dict
import PyProof.DictTable
import HandS.SetFor
import HandS.Style
import HandS.DictComp
import KE.DataCmp
import HandS.Flt
import PySem.Challenge.RW_netstory_k04_equal_stretches_or_a_claw
set_option Elab.async false
set_option linter.all false
set_option maxRecDepth 100000
set_option maxHeartbeats 0
/-! Own layer A: chains of three comparisons, three names at once, calls of defs that may raise, facts by any test. -/
namespace Ns
open PySem PySem.Spec PyProof.Rows L2
section
variable {X : Cx} {a b c d : Expr} {ta tb tc td : TE} {pos : Pos}
def tChain3 (r r' r2 : R2) (ta tb tc td : TE) : TE := fun σ H Q => ta σ H fun x H1 => tb σ H1 fun y H2 => r x y H2 fun z H3 => ∃ k, z = .bl k ∧
  (if k = true then tc σ H3 fun y' H4 => r' y y' H4 fun z' H5 => ∃ k', z' = .bl k' ∧ (if k' = true then td σ H5 fun y2 H6 => r2 y' y2 H6 Q else Q (.bl false) H5) else Q (.bl false) H3)
theorem pt_chain3 {op op' op2 : CmpOp} {r r' r2 : R2} (ho : OpR X (compareOp op) r) (ho' : OpR X (compareOp op') r') (ho2 : OpR X (compareOp op2) r2) (ha : PE X a ta) (hb : PE X b tb) (hc : PE X c tc) (hd : PE X d td)
    (hm : lastMarks [op, op', op2] [b, c, d] = false := by with_unfolding_all rfl) : PT X (.Compare a [op, op', op2] [b, c, d] pos) (tTest (tChain3 r r' r2 ta tb tc td)) := by
  refine ⟨fun pins s σ H Q I h => ?_⟩
  refine isTrue_chain (thn (ha.run pins s σ H _ I h) fun v s1 ⟨x, H1, I1, r1, q1⟩ => test_link (thn (hb.run pins s1 σ H1 _ I1 q1) fun u s2 ⟨y, H2, I2, r2', q2⟩ =>
    thn (ho pins s2 σ H2 x y v u _ I2 r1 r2' q2) fun d s3 ⟨z, H3, I3, r3, k, e, q3⟩ => ?_)) hm
  subst e
  cases r3
  refine wpAny_truthy_bool ?_
  cases k with
  | false =>
    obtain ⟨k', e', q'⟩ := q3
    cases e'
    exact ite_ff ⟨H3, I3, q'⟩
  | true =>
    refine ite_tt (test_link (thn (hc.run pins s3 σ H3 _ I3 q3) fun u' s4 ⟨y', H4, I4, r4, q4⟩ => thn (ho' pins s4 σ H4 y y' u u' _ I4 r2' r4 q4) fun d' s5 ⟨z', H5, I5, r5, k', e', q5⟩ => ?_))
    subst e'
    cases r5
    refine wpAny_truthy_bool ?_
    cases k' with
    | false =>
      obtain ⟨k2, e2, q2⟩ := q5
      cases e2
      exact ite_ff ⟨H5, I5, q2⟩
    | true =>
      refine ite_tt (test_last (thn (hd.run pins s5 σ H5 _ I5 q5) fun w' s6 ⟨z6, H6, I6, r6, q6⟩ => thn (ho2 pins s6 σ H6 y' z6 u' w' _ I6 r4 r6 q6) fun d7 s7 ⟨z7, H7, I7, r7, k2, e2, q7⟩ => ?_))
      subst e2
      cases r7
      exact wpAny_truthy_bool ⟨H7, I7, q7⟩
end
/-! ### a, b, c = x, y, z -/
/-! ### a def of the module by its name: what it may let out is CX -/
section
variable {P : Program} {w : World} {K : PySem.W.Frag} {mg : Str → Option Value} {base : Heap}
/-- the module's name x is a def that keeps the promise sp, at level k -/
structure Cal (P : Program) (w : World) (K : PySem.W.Frag) (mg : Str → Option Value) (base : Heap) (k : Nat) (x : Str) (sp : Sp) : Prop where
  ex : ∃ (f : Addr) (fd : FuncData) (ps : List Str), FnOk P w K mg base (L2.CX P w) k f fd ps sp ∧ mg x = some (.ref f) ∧ PySem.W.keepIn K (.ref f) = true ∧ Binds K fd ps []
abbrev FnP (K : PySem.W.Frag) (x : Str) (st : Stmt) (f : Addr) (fd : FuncData) : Prop := FunD K x x (defArgs st) (defBody st) (defScope st) [] [] f fd
/-- where the def st stands under the name x -/
structure At (K : PySem.W.Frag) (mg : Str → Option Value) (x : Str) (st : Stmt) : Prop where
  ex : ∃ (f : Addr) (fd : FuncData), FnP K x st f fd ∧ mg x = some (.ref f)
theorem At.cal {x : Str} {st : Stmt} {N ps : List Str} {k : Nat} {sp : Sp} (F : At K mg x st) (S : FnScope N ps (defScope st))
    (hb : ∀ (kV doc pm : Value) (an : Option Addr) (cdv ct : Value) (us : List Value), us.length = ps.length → bindArgs (PySem.W.fnOf x x (defArgs st) (defBody st) (defScope st) .none kV doc pm an cdv ct) ⟨us, []⟩ = pure (ps.zip us))
    (len : ∀ vs H Q E, sp vs H Q E → vs.length = ps.length)
    (hbody : ∀ (f : Addr) (cdv : Value) (A : Around) (outer : List Env) (s : Shared) (H : Hp) (vs : List V) (Q : VK) (E : XK), Room k (A.deeper (envOfC x (defScope st) s.heap.objs.size f cdv)) → sp vs H Q E →
      ∃ t, PSs (cxOf (L2.CX P w) P w K mg base N x (defScope st) f cdv A outer s H E) (defBody st) t ∧ t { nx := fun _ H' => Q .non H', rt := Q } (start N vs) H) : Cal P w K mg base (k + 1) x sp := by
  obtain ⟨f, fd, F, hm⟩ := F.ex
  exact ⟨f, fd, ps, F.ok S len (hbody f), hm, F.kp, F.bindsN hb⟩
theorem Cal.mono {j k : Nat} {x : Str} {sp : Sp} (c : Cal P w K mg base j x sp) (h : j ≤ k) : Cal P w K mg base k x sp := by
  obtain ⟨f, fd, ps, F, a, b, d⟩ := c.ex
  exact ⟨f, fd, ps, F.mono h, a, b, d⟩
theorem Cal.imp {k : Nat} {x : Str} {sp sp' : Sp} (c : Cal P w K mg base k x sp) (h : ∀ vs H Q E, sp' vs H Q E → sp vs H Q E) : Cal P w K mg base k x sp' := by
  obtain ⟨f, fd, ps, F, a, b, d⟩ := c.ex
  exact ⟨f, fd, ps, F.imp h, a, b, d⟩
end
section
variable {X : Cx} {k j : Nat} {x : Str} {sp : Sp} {E : XK} {p pos : Pos} {e : Expr} {es : List Expr} {t : TA}
theorem pe_cal (F : Cal X.prog X.w X.K X.mg X.base k x sp) (hr : Room j X.A) (hk : k ≤ j) (hg : Gl X x) (hx : Passes (L2.CX X.prog X.w) X E) (ha : PA X (e :: es) t) (hdb : (x == ("__debug__" : Str)) = false := by decide)
    (he : starEach (e :: es) X.env = (false, eval e X.env) :: starEach es X.env := by rfl) (hpl : (backTo pos (starEach es X.env)).any (·.1) = false := by rfl) :
    PE X (.Call (.Name x p) (e :: es) [] pos) (tCall sp [] E t) := by
  obtain ⟨f, fd, ps, G, hm, kp, b⟩ := F.ex
  exact pe_call G (hr.mono hk) hg hm kp b .nil hx ha hdb he hpl
/-- what a callee raises goes on out of the def -/
theorem passE {P : Program} {w : World} {K : PySem.W.Frag} {mg : Str → Option Value} {base : Heap} {N : List Str} {qual : Str} {sc : Scope} {f : Addr} {cd : Value} {A : Around} {outer : List Env} {s : Shared} {H : Hp} {E : XK} :
    Passes (L2.CX P w) (cxOf (L2.CX P w) P w K mg base N qual sc f cd A outer s H E) E :=
  passes_call (W := fun cls d _ H => E cls d H) (takes_of rfl rfl rfl rfl) fun _ _ _ _ h => h
end
/-! ### facts of the written part by any test of one's own -/
abbrev FT := PySem.W.Frag → Bool
def obsX (fx : List FT) (fn : List He.DefD) (K : PySem.W.Frag) : He.AlD := ((fx.all fun f => f K) && fn.all fun d => d.ok K, fn.map fun d => He.fnW K d.at_)
def SaysX (fx : List FT) (fn : List He.DefD) (K : PySem.W.Frag) : Prop := obsX fx fn K = He.valD fn
section
variable {fx : List FT} {fn : List He.DefD} {K : PySem.W.Frag}
theorem SaysX.fact (c : SaysX fx fn K) (i : Nat) {f : FT} (h : fx[i]? = some f := by rfl) : f K = true := by
  have c1 := (He.ba (show ((fx.all fun f => f K) && fn.all fun d => d.ok K) = true from congrArg (fun z : He.AlD => z.1) c)).1
  exact List.all_eq_true.mp c1 f (List.mem_of_getElem? h)
theorem SaysX.def_ (c : SaysX fx fn K) (i : Nat) {d : He.DefD} (h : fn[i]? = some d := by rfl) : ∃ fd, FunD K d.name d.qual d.params d.body d.scope (d.dvs K) (d.kws K) (He.fAd K d.at_) fd := by
  have c2 := (He.ba (show ((fx.all fun f => f K) && fn.all fun d => d.ok K) = true from congrArg (fun z : He.AlD => z.1) c)).2
  have e : fn.map (fun d => He.fnW K d.at_) = fn.map He.DefD.val := congrArg (fun z : He.AlD => z.2) c
  have e2 : (fn.map fun d => He.fnW K d.at_)[i]? = (fn.map He.DefD.val)[i]? := by rw [e]
  rw [List.getElem?_map, List.getElem?_map, h] at e2
  exact He.DefD.funD (Option.some.inj e2) (List.all_eq_true.mp c2 d (List.mem_of_getElem? h))
end
end Ns
namespace Ns
open PySem PySem.Spec PyProof.Rows L2
/-! ### built-in names that the text leaves free -/
structure Bi (mg : Str → Option Value) : Prop where
  abs : mg "abs" = none
  int_ : mg "int" = none
  len : mg "len" = none
  range : mg "range" = none
  tuple : mg "tuple" = none
  list : mg "list" = none
  dict_ : mg "dict" = none
  set_ : mg "set" = none
  str_ : mg "str" = none
  bool : mg "bool" = none
  sorted : mg "sorted" = none
  min : mg "min" = none
  max : mg "max" = none
  sum : mg "sum" = none
  any : mg "any" = none
  all : mg "all" = none
  isinstance : mg "isinstance" = none
  enumerate : mg "enumerate" = none
  zip : mg "zip" = none
  reversed : mg "reversed" = none
def biNames : List Str := ["abs", "int", "len", "range", "tuple", "list", "dict", "set", "str", "bool", "sorted", "min", "max", "sum", "any", "all", "isinstance", "enumerate", "zip", "reversed"]
def freeT (x : Str) : FT := fun K => (He.Fa.free x).ok K
def biT : FT := fun K => biNames.all fun x => freeT x K
theorem bi_of {K : PySem.W.Frag} {h : Heap} {mg : Str → Option Value} (X : K.In h) (G : h.Ns mainGlobals mg) (c : biT K = true) : Bi mg := by
  have f : ∀ x ∈ biNames, mg x = none := fun x hx => He.free_ok X G (List.all_eq_true.mp c x hx)
  exact ⟨f _ (by simp [biNames]), f _ (by simp [biNames]), f _ (by simp [biNames]), f _ (by simp [biNames]), f _ (by simp [biNames]), f _ (by simp [biNames]), f _ (by simp [biNames]), f _ (by simp [biNames]), f _ (by simp [biNames]), f _ (by simp [biNames]),
    f _ (by simp [biNames]), f _ (by simp [biNames]), f _ (by simp [biNames]), f _ (by simp [biNames]), f _ (by simp [biNames]), f _ (by simp [biNames]), f _ (by simp [biNames]), f _ (by simp [biNames]), f _ (by simp [biNames]), f _ (by simp [biNames])⟩
/-- a loop's own errors leave the def -/
theorem passOwn {CX : CXT} {P : Program} {w : World} {K : PySem.W.Frag} {mg : Str → Option Value} {base : Heap} {N : List Str} {qual : Str} {sc : Scope} {f : Addr} {cd : Value} {A : Around} {outer : List Env} {s : Shared} {H : Hp} {E : XK} :
    PassesOwn (model (cxOf CX P w K mg base N qual sc f cd A outer s H E).prog (cxOf CX P w K mg base N qual sc f cd A outer s H E).w) (cxOf CX P w K mg base N qual sc f cd A outer s H E).A (cxOf CX P w K mg base N qual sc f cd A outer s H E).env (cxOf CX P w K mg base N qual sc f cd A outer s H E).xe := PassesOwn.leaving
end Ns
namespace Ns
open PySem PySem.Spec PyProof.Rows L2
/-! ### ways of a test -/
theorem ifD {p : Prop} [Decidable p] {A B : Prop} (h1 : p → A) (h2 : ¬ p → B) : if decide p = true then A else B := by
  by_cases h : p
  · rw [if_pos (decide_eq_true h)]
    exact h1 h
  · rw [if_neg (by simpa using h)]
    exact h2 h
theorem ifI {i j : Int} {A B : Prop} (h1 : i = j → A) (h2 : i ≠ j → B) : if decide (V.int i = V.int j) = true then A else B :=
  ifD (fun h => h1 (V.int.inj h)) fun h => h2 fun e => h (congrArg V.int e)
theorem ifNI {i j : Int} {A B : Prop} (h1 : i ≠ j → A) (h2 : i = j → B) : if (!decide (V.int i = V.int j)) = true then A else B := by
  by_cases h : i = j
  · rw [decide_eq_true (congrArg V.int h)]
    exact iteF (h2 h)
  · rw [decide_eq_false fun e => h (V.int.inj e)]
    exact iteT (h1 h)
theorem ifB {b : Bool} {A B : Prop} (h1 : b = true → A) (h2 : b = false → B) : if b = true then A else B := by
  cases b
  · exact iteF (h2 rfl)
  · exact iteT (h1 rfl)
theorem ifN {b : Bool} {A B : Prop} (h1 : b = false → A) (h2 : b = true → B) : if (!b) = true then A else B := by
  cases b
  · exact iteT (h1 rfl)
  · exact iteF (h2 rfl)
end Ns
namespace Ns
open PySem PySem.Spec PyProof.Rows L2
/-! ### the rules whose reading names the written part, with that named K -/
section
variable {X : Cx} {K : PySem.W.Frag} {a b e : Expr} {es : List Expr} {ta tb te : TE} {rest : List Expr} {pos : Pos}
theorem pg_tupK {k : Nat} {t : TGs} {n : Nat} (hK : X.K = K) (hc : X.calm = true) (h : PGs X es t)
    (hn : (assignEach es X.env).length = n := by rfl) (hst : (assignEach es X.env).findIdx? (·.1) = none := by rfl) : PG X (.Tuple es k pos) (gTup K n t) := by
  subst hK
  exact pg_tup hc h hn hst
theorem ix_listK (hK : X.K = K) : IxR X (rIxL K) := by subst hK; exact ix_list
theorem ix_tupK (hK : X.K = K) : IxR X (rIxT K) := by subst hK; exact ix_tup
theorem ix_seqK (hK : X.K = K) : IxR X (rIx K) := by subst hK; exact ix_seq
theorem sl_listK (hK : X.K = K) : SlR X (rSlL K) := by subst hK; exact sl_list
theorem sl_tupAK (hK : X.K = K) : SlR X (rSlA K) := by subst hK; exact sl_tupA
theorem op_in_seqK (hK : X.K = K) : OpR X (compareOp .In) (rIn K false) := by subst hK; exact op_in_seq
theorem op_notIn_seqK (hK : X.K = K) : OpR X (compareOp .NotIn) (rIn K true) := by subst hK; exact op_notIn_seq
theorem op_ltTK (hK : X.K = K) (hu : X.A.units < cLine) : OpR X (compareOp .Lt) (rLtT K) := by subst hK; exact op_ltT hu
theorem op_catAK (hK : X.K = K) : OpR X (binaryOp .Add) (rCatA K) := by subst hK; exact op_catA
def rLenK (K : PySem.W.Frag) : List V → Hp → VK → Prop := fun xs H Q => ∃ x n, xs = [x] ∧ LenV K x H n ∧ Q (.int n) H
theorem call_lenK (hK : X.K = K) : CallR X (.builtin "len") (rLenK K) := by subst hK; exact call_len
def rListOfK (K : PySem.W.Frag) : List V → Hp → VK → Prop := fun xs H Q => ∃ p ys, xs = [.ref p] ∧ (SqL K H p ys ∨ SqT K H p ys) ∧ ∀ l, H l = none → Q (.ref l) (upd H l (.lst ys))
theorem call_list_ofK (hK : X.K = K) : CallR X (.type "list") (rListOfK K) := by subst hK; exact call_list_of
def rTupOfK (K : PySem.W.Frag) : List V → Hp → VK → Prop := fun xs H Q => ∃ p ys, xs = [.ref p] ∧ ((SqL K H p ys ∧ ∀ l, H l = none → Q (.ref l) (upd H l (.tup ys))) ∨ (SqT K H p ys ∧ Q (.ref p) H))
theorem call_tuple_ofK (hK : X.K = K) : CallR X (.type "tuple") (rTupOfK K) := by subst hK; exact call_tuple_of
theorem call_isiK' (hK : X.K = K) : CallR X (.builtin "isinstance") (rIsi K) := by subst hK; exact call_isi
def tTru (K : PySem.W.Frag) (ta : TE) : TT := fun σ H Q => ta σ H fun x H' => ∃ k, TruV K x H' k ∧ Q k H'
theorem pt_truthK (hK : X.K = K) (ha : PE X a ta) (he : ∀ whole, isTrue a X.env whole = (do let v ← whole; standAt a.pos; holding [v] (truthy v))) : PT X a (tTru K ta) := by subst hK; exact pt_truth ha he
theorem pi_listK {tg : Expr} (hK : X.K = K) (hl : PE X e te) : PI X tg e (iList K te) := by subst hK; exact pi_list hl
theorem pi_tupK {tg : Expr} (hK : X.K = K) (hl : PE X e te) : PI X tg e (iTup K te) := by subst hK; exact pi_tup hl
theorem pi_enumK {t : TA} {p tpos : Pos} {elts : List Expr} {kk : Nat} (hK : X.K = K) (hg : Gl X "enumerate") (hm : X.mg "enumerate" = none) (ha : PA X [e] t) (hs : starEach [e] X.env = [(false, eval e X.env)] := by rfl) :
    PI X (.Tuple elts kk tpos) (.Call (.Name "enumerate" p) [e] [] pos) (iEnum K t) := by subst hK; exact pi_enum hg hm ha hs
end
end Ns
namespace Ns
open PySem PySem.Spec PyProof.Rows L2
/-! ### own errors, made without arguments -/
structure ExcC (K : PySem.W.Frag) (mg : Str → Option Value) (x : Str) (C : Addr) : Prop where
  g : mg x = some (.ref C)
  ex : PySem.W.excIn K C He.veBase "ValueError.__new__" = true
  kp : PySem.W.keepIn K (.ref C) = true
  sub : PySem.W.subIn K (.ref C) (.type "BaseException") = some true
  ty : PySem.W.typeIn K (.ref C) = some (.type "type")
def excT (x : Str) : FT := fun K => (He.Fa.glo x).ok K && (He.Fa.exc x).ok K
theorem excC_of {K : PySem.W.Frag} {h : Heap} {mg : Str → Option Value} (X : K.In h) (G : h.Ns mainGlobals mg) {x : Str} (c : excT x K = true) : ExcC K mg x (He.ga K x) := by
  obtain ⟨c1, c2⟩ := He.ba c
  obtain ⟨e1, e2, e3, e4⟩ := He.exc_ok c2
  exact ⟨He.glo_ok X G c1, e1, e2, e3, e4⟩
section
variable {X : Cx} {C : Addr} {bmB : List Value} {B newId initId : String}
theorem pmk_own0 {x : Str} {p pos : Pos} (F : ExcBaseFacts B newId initId bmB) (q : PySem.W.excIn X.K C bmB newId = true) (gC : X.mg x = some (.ref C)) (kC : PySem.W.keepIn X.K (.ref C) = true) (r : Raises X (.ref C)) (hg : Gl X x)
    (hdb : (x == ("__debug__" : Str)) = false := by decide) : PMk X (.Call (.Name x p) [] [] pos) (fun _ H Q => Q (.ref C) none H) := by
  intro pins s σ H Q I h
  refine wpAny_Call_Name_kw (ld_glob I hg gC ?_ hdb)
  refine PySem.W.callWith_K0 I.kIn kC ?_
  show wpAny _ _ (call (.ref C) []) _ _ _
  obtain ⟨bm, N, nm, qn, bs, hdct, sn, sub, ab, col, dd, k0, k1, k2, k3, k5, mN, hC, hN, hni, T⟩ := exc_obj I.kIn q
  refine wpAny_call_exc_subT F T hC hN hni (fun h' e hm => ?_) (by show 0 ≤ sizeLine; omega)
  exact mk_of I hm r h (I.hok.gone hm.new)
end
end Ns
/-! Own layer Tb: tables of defs, defaults, defs under another name. -/
namespace Ns
open PySem PySem.Spec PyProof.Rows L2
/-! ### facts of the written part, with tables of text keys -/
abbrev AlX : Type := He.AlD × List (Option (List (Option (Str × Int))))
def obsXT (fx : List FT) (fn : List He.DefD) (ts : List He.Tab) (K : PySem.W.Frag) : AlX := (obsX fx fn K, ts.map fun t => He.dicW K (t.1 K))
def valXT (fn : List He.DefD) (ts : List He.Tab) (w : World) : AlX := (He.valD fn, ts.map fun t => some (He.keysIn w.params t.2))
def SaysXT (fx : List FT) (fn : List He.DefD) (ts : List He.Tab) (w : World) (K : PySem.W.Frag) : Prop := obsXT fx fn ts K = valXT fn ts w
def obsXTG (n : Nat) (fx : List FT) (fn : List He.DefD) (ts : List He.Tab) (g : Addr → Option Obj) : AlX := obsXT fx fn ts (He.frG g (He.asD g n))
def hookXT (n : Nat) (fx : List FT) (fn : List He.DefD) (ts : List He.Tab) : PySem.W.Hook where
  α := AlX
  obs := fun s => obsXTG n fx fn ts s.heap.get?
  val := fun w => valXT fn ts w
  says := fun w h => ∃ K : PySem.W.Frag, K.In h ∧ SaysXT fx fn ts w K
  of := fun _ _ e => ⟨_, He.frG_in, e⟩
  keeps := fun _ _ _ ⟨K, hK, c⟩ k => ⟨K, PySem.W.Frag.In.keeps hK k, c⟩
theorem obsXTG_eq {n : Nat} {fx : List FT} {fn : List He.DefD} {ts : List He.Tab} {g : Addr → Option Obj} {s : Shared} (h : ∀ a, g a = s.heap.get? a) : obsXTG n fx fn ts g = (hookXT n fx fn ts).obs s := by
  have e : g = s.heap.get? := funext h
  rw [e] <;> rfl
section
variable {fx : List FT} {fn : List He.DefD} {ts : List He.Tab} {w : World} {K : PySem.W.Frag}
theorem SaysXT.x (c : SaysXT fx fn ts w K) : SaysX fx fn K := congrArg (fun z : AlX => z.1) c
theorem SaysXT.tab (c : SaysXT fx fn ts w K) (i : Nat) {t : He.Tab} (h : ts[i]? = some t := by rfl) : ∃ es n, KDict K w (t.1 K) es n := by
  have e : ts.map (fun t => He.dicW K (t.1 K)) = ts.map fun t => some (He.keysIn w.params t.2) := congrArg (fun z : AlX => z.2) c
  have e2 : (ts.map fun t => He.dicW K (t.1 K))[i]? = (ts.map fun t => some (He.keysIn w.params t.2))[i]? := by rw [e]
  rw [List.getElem?_map, List.getElem?_map, h] at e2
  exact He.dicW_ok (Option.some.inj e2)
/-- under this key stands this -/
theorem kdct_of {a : Addr} {es : Array DictEntry} {n : Nat} (D : KDict K w a es n) {kvs : List (Str × He.Dv)} (h : He.valsB K a kvs = true) {q : Str × He.Dv} (hq : q ∈ kvs) : KDct K w a q.1 (q.2.v K) := by
  obtain ⟨u, h1, h2⟩ := He.valsB_ok h hq
  exact ⟨es, n, u, D.at_, D.lit, h1, h2⟩
end
section
variable {P : Program} {w : World} {K : PySem.W.Frag} {mg : Str → Option Value} {base : Heap}
/-- where the def st, named x, stands under the name g -/
structure AtN (K : PySem.W.Frag) (mg : Str → Option Value) (g x : Str) (st : Stmt) : Prop where
  ex : ∃ (f : Addr) (fd : FuncData), FnP K x st f fd ∧ mg g = some (.ref f)
theorem AtN.cal {g x : Str} {st : Stmt} {N ps : List Str} {k : Nat} {sp : Sp} (F : AtN K mg g x st) (S : FnScope N ps (defScope st))
    (hb : ∀ (kV doc pm : Value) (an : Option Addr) (cdv ct : Value) (us : List Value), us.length = ps.length → bindArgs (PySem.W.fnOf x x (defArgs st) (defBody st) (defScope st) .none kV doc pm an cdv ct) ⟨us, []⟩ = pure (ps.zip us))
    (len : ∀ vs H Q E, sp vs H Q E → vs.length = ps.length)
    (hbody : ∀ (f : Addr) (cdv : Value) (A : Around) (outer : List Env) (s : Shared) (H : Hp) (vs : List V) (Q : VK) (E : XK), Room k (A.deeper (envOfC x (defScope st) s.heap.objs.size f cdv)) → sp vs H Q E →
      ∃ t, PSs (cxOf (L2.CX P w) P w K mg base N x (defScope st) f cdv A outer s H E) (defBody st) t ∧ t { nx := fun _ H' => Q .non H', rt := Q } (start N vs) H) : Cal P w K mg base (k + 1) g sp := by
  obtain ⟨f, fd, F, hm⟩ := F.ex
  exact ⟨f, fd, ps, F.ok S len (hbody f), hm, F.kp, F.bindsN hb⟩
/-! ### a def with defaults, called without them -/
structure CalD (P : Program) (w : World) (K : PySem.W.Frag) (mg : Str → Option Value) (base : Heap) (k : Nat) (x : Str) (dvs : List V) (sp : Sp) : Prop where
  ex : ∃ (f : Addr) (fd : FuncData) (ps : List Str) (ds : List Value), FnOk P w K mg base (L2.CX P w) k f fd ps sp ∧ mg x = some (.ref f) ∧ PySem.W.keepIn K (.ref f) = true ∧ Binds K fd ps ds ∧ Vals dvs ds
/-- where such a def stands -/
structure AtD (K : PySem.W.Frag) (mg : Str → Option Value) (x : Str) (st : Stmt) (dvs : List V) : Prop where
  ex : ∃ (f : Addr) (fd : FuncData), FunD K x x (defArgs st) (defBody st) (defScope st) dvs [] f fd ∧ mg x = some (.ref f)
theorem AtD.cal {x : Str} {st : Stmt} {N ps : List Str} {k : Nat} {sp : Sp} {dvs : List V} (F : AtD K mg x st dvs) (S : FnScope N ps (defScope st)) (n : Nat) (hd : dvs ≠ []) (hn : n + dvs.length = ps.length)
    (hb : ∀ (T : Addr) (kV doc pm : Value) (an : Option Addr) (cdv ct : Value) (us its : List Value), us.length = n → its.length = dvs.length →
      ∃ k, bindArgs (PySem.W.fnOf x x (defArgs st) (defBody st) (defScope st) (.ref T) kV doc pm an cdv ct) ⟨us, []⟩ = seqItems? (.ref T) >>= k ∧ k (some its.toArray) = pure (ps.zip (us ++ its)))
    (len : ∀ vs H Q E, sp vs H Q E → vs.length = ps.length)
    (hbody : ∀ (f : Addr) (cdv : Value) (A : Around) (outer : List Env) (s : Shared) (H : Hp) (vs : List V) (Q : VK) (E : XK), Room k (A.deeper (envOfC x (defScope st) s.heap.objs.size f cdv)) → sp vs H Q E →
      ∃ t, PSs (cxOf (L2.CX P w) P w K mg base N x (defScope st) f cdv A outer s H E) (defBody st) t ∧ t { nx := fun _ H' => Q .non H', rt := Q } (start N vs) H) : CalD P w K mg base (k + 1) x dvs sp := by
  obtain ⟨f, fd, F, hm⟩ := F.ex
  obtain ⟨ds, v, b⟩ := F.binds1 (ps := ps) n 0 hd (by rw [Nat.sub_zero]; exact hn) hb
  exact ⟨f, fd, ps, ds, F.ok S len (hbody f), hm, F.kp, b, v⟩
end
section
variable {X : Cx} {k j : Nat} {x : Str} {sp : Sp} {E : XK} {p pos : Pos} {e fe : Expr} {es : List Expr} {t : TA} {tf : TE} {dvs : List V}
theorem pe_calD (F : CalD X.prog X.w X.K X.mg X.base k x dvs sp) (hr : Room j X.A) (hk : k ≤ j) (hg : Gl X x) (hx : Passes (L2.CX X.prog X.w) X E) (ha : PA X (e :: es) t) (hdb : (x == ("__debug__" : Str)) = false := by decide)
    (he : starEach (e :: es) X.env = (false, eval e X.env) :: starEach es X.env := by rfl) (hpl : (backTo pos (starEach es X.env)).any (·.1) = false := by rfl) :
    PE X (.Call (.Name x p) (e :: es) [] pos) (tCall sp dvs E t) := by
  obtain ⟨f, fd, ps, ds, G, hm, kp, b, v⟩ := F.ex
  exact pe_call G (hr.mono hk) hg hm kp b v hx ha hdb he hpl
/-! ### the def that an expression gives, called -/
def tCallV (P : Program) (w : World) (K : PySem.W.Frag) (mg : Str → Option Value) (base : Heap) (k : Nat) (E : XK) (tf : TE) (t : TA) : TE := fun σ H Q => tf σ H fun x H1 => ∃ (nm : Str) (f : Addr) (sp : Sp), x = .ref f ∧ mg nm = some (.ref f) ∧ Cal P w K mg base k nm sp ∧ tCall sp [] E t σ H1 Q
theorem pe_callV (hr : Room j X.A) (hk : k ≤ j) (hf : PE X fe tf) (hx : Passes (L2.CX X.prog X.w) X E) (ha : PA X (e :: es) t)
    (he : starEach (e :: es) X.env = (false, eval e X.env) :: starEach es X.env := by rfl) (hpl : (backTo pos (starEach es X.env)).any (·.1) = false := by rfl)
    (hq : eval (.Call fe (e :: es) [] pos) X.env = (do callWith pos (← eval fe X.env) [] (backTo pos (starEach (e :: es) X.env)) (backToKw pos (keywordEach [] X.env))) := by rfl) :
    PE X (.Call fe (e :: es) [] pos) (tCallV X.prog X.w X.K X.mg X.base k E tf t) := by
  refine ⟨fun pins s σ H Q I h => ?_⟩
  refine Call_ (thn (hf.run pins s σ H _ I h) fun v s1 ⟨x, H1, I1, rx, nm, f, sp, ex, hm, F, q⟩ => ?_) hq
  subst ex
  cases rx
  obtain ⟨f2, fd, ps, G, hm2, kp, b⟩ := F.ex
  have e : f = f2 := by
    have h := hm.symm.trans hm2
    injection h with h
    injection h
  subst e
  refine PySem.W.callWith_K (h₀ := X.base) I1.ok.mod.kin kp (thn (ha.run pos pins s1 σ H1 _ I1 q) fun us s2 ⟨vs, H2, I2, r, q2⟩ => ⟨I2.kIn, ?_⟩) he hpl
  exact run_fn G (hr.mono hk) b .nil hx I2 r q2
end
end Ns
/-! Own layer D: data in the heap, comprehensions that make data of data. -/
namespace Ns
open PySem PySem.Spec PyProof.Rows L2
/-! ### what stays -/
/-- tuples stay -/
def KeepT (H H' : Hp) : Prop := ∀ a xs, H a = some (.tup xs) → H' a = some (.tup xs)
theorem KeepT.refl (H : Hp) : KeepT H H := fun _ _ h => h
theorem KeepT.trans {H H1 H2 : Hp} (x : KeepT H H1) (y : KeepT H1 H2) : KeepT H H2 := fun a xs h => y a xs (x a xs h)
theorem sKt {H H' : Hp} (x : Same H H') : KeepT H H' := fun a xs h => x a _ h
theorem KeepT.lst {H : Hp} {p : Addr} {xs : List V} {o : HO} (h : H p = some (.lst xs)) : KeepT H (upd H p o) := fun a ys e => by
  rw [upd_ne (ne_of e h (by intro z; cases z))]
  exact e
theorem KeepT.dT {H : Hp} {p : Addr} {xs : List (List Key × V)} {o : HO} (h : H p = some (.dT xs)) : KeepT H (upd H p o) := fun a ys e => by
  rw [upd_ne (ne_of e h (by intro z; cases z))]
  exact e
theorem KeepT.dK {H : Hp} {p : Addr} {xs : List (Key × V)} {o : HO} (h : H p = some (.dK xs)) : KeepT H (upd H p o) := fun a ys e => by
  rw [upd_ne (ne_of e h (by intro z; cases z))]
  exact e
theorem KeepT.new {H : Hp} {p : Addr} {o : HO} (h : H p = none) : KeepT H (upd H p o) := fun a ys e => by
  rw [upd_ne (ne_of_none e h)]
  exact e
/-- all stands but what stands at D -/
def SameX (D : Addr) (H H' : Hp) : Prop := ∀ a o, H a = some o → a ≠ D → H' a = some o
theorem SameX.refl (D : Addr) (H : Hp) : SameX D H H := fun _ _ h _ => h
theorem SameX.trans {D : Addr} {H H1 H2 : Hp} (x : SameX D H H1) (y : SameX D H1 H2) : SameX D H H2 := fun a o h n => y a o (x a o h n) n
theorem SameX.put {D : Addr} {o : HO} {H : Hp} : SameX D H (upd H D o) := fun a u h n => by
  rw [upd_ne n]
  exact h
theorem SameX.same {D : Addr} {H H1 H2 : Hp} (n : H D = none) (x : Same H H1) (y : SameX D H1 H2) : Same H H2 := fun a o h => y a o (x a o h) (ne_of_none h n)
/-- a store into an object new since H -/
theorem sPut {p : Addr} {o : HO} {H H1 : Hp} (x : Same H H1) (n : H p = none) : Same H (upd H1 p o) := fun a u h => by
  rw [upd_ne (ne_of_none h n)]
  exact x a u h
theorem sNew {p : Addr} {o : HO} {H H1 : Hp} (x : Same H H1) (n : H1 p = none) : Same H (upd H1 p o) := fun a u h => by
  rw [upd_ne (ne_of_none (x a u h) n)]
  exact x a u h
theorem same_laid {H : Hp} {p : Addr} {o : HO} (h : H p = none) : Same H (upd H p o) := sNew (Same.refl H) h
/-! ### data -/
/-- a representation that stays while tuples stay -/
def PersT {α : Type} (R : Hp → V → α → Prop) : Prop := ∀ H H' v a, KeepT H H' → R H v a → R H' v a
theorem pMono {α : Type} {R : Hp → V → α → Prop} (p : PersT R) {H H' : Hp} (k : KeepT H H') : ∀ {vs : List V} {xs : List α}, Paired (R H) vs xs → Paired (R H') vs xs
  | _, _, .nil => .nil
  | _, _, .cons h t => .cons (p _ _ _ _ k h) (pMono p k t)
theorem pApp {α β : Type} {F : α → β → Prop} : ∀ {as as' : List α} {bs bs' : List β}, Paired F as bs → Paired F as' bs' → Paired F (as ++ as') (bs ++ bs')
  | _, _, _, _, .nil, h => h
  | _, _, _, _, .cons h t, h' => .cons h (pApp t h')
theorem pAt {α β : Type} {F : α → β → Prop} : ∀ {as : List α} {bs : List β} {i : Nat} {b : β}, Paired F as bs → bs[i]? = some b → ∃ a, as[i]? = some a ∧ F a b
  | _, _, _, _, .nil, h => by simp at h
  | _, _, 0, _, .cons h t, e => by simp at e; exact ⟨_, rfl, e ▸ h⟩
  | _, _, i + 1, _, .cons h t, e => by
    obtain ⟨a, h1, h2⟩ := pAt (i := i) t (by simpa using e)
    exact ⟨a, by simpa using h1, h2⟩
theorem pAtL {α β : Type} {F : α → β → Prop} : ∀ {as : List α} {bs : List β} {i : Nat} {a : α}, Paired F as bs → as[i]? = some a → ∃ b, bs[i]? = some b ∧ F a b
  | _, _, _, _, .nil, h => by simp at h
  | _, _, 0, _, .cons h t, e => by simp at e; exact ⟨_, rfl, e ▸ h⟩
  | _, _, i + 1, _, .cons h t, e => by
    obtain ⟨a, h1, h2⟩ := pAtL (i := i) t (by simpa using e)
    exact ⟨a, by simpa using h1, h2⟩
theorem pMemL {α β : Type} {F : α → β → Prop} {as : List α} {bs : List β} (p : Paired F as bs) {a : α} (h : a ∈ as) : ∃ b, b ∈ bs ∧ F a b := by
  obtain ⟨i, hi⟩ := List.mem_iff_getElem?.mp h
  obtain ⟨a, h1, h2⟩ := pAtL p hi
  exact ⟨a, List.mem_of_getElem? h1, h2⟩
theorem pMapL {α β γ : Type} {F : α → β → Prop} (f : γ → α) (g : γ → β) : ∀ (l : List γ), (∀ c ∈ l, F (f c) (g c)) → Paired F (l.map f) (l.map g)
  | [], _ => .nil
  | c :: l, h => .cons (h c (List.mem_cons_self ..)) (pMapL f g l fun d hd => h d (List.mem_cons_of_mem _ hd))
/-- a point -/
def pI (x : Nat) : V := .int (x : Int)
def Pt (_ : Hp) (v : V) (x : Nat) : Prop := v = pI x
theorem persPt : PersT Pt := fun _ _ _ _ _ h => h
/-- an int -/
def Nm (_ : Hp) (v : V) (z : Int) : Prop := v = .int z
theorem persNm : PersT Nm := fun _ _ _ _ _ h => h
theorem pairedNm (H : Hp) : ∀ ns : List Int, Paired (Nm H) (ns.map V.int) ns
  | [] => .nil
  | _ :: ns => .cons rfl (pairedNm H ns)
theorem pairedNm_eq {H : Hp} : ∀ {vs : List V} {ns : List Int}, Paired (Nm H) vs ns → vs = ns.map V.int
  | _, _, .nil => rfl
  | _, _, .cons h t => by rw [show _ = V.int _ from h, pairedNm_eq t]; rfl
/-- a pair of points -/
def Pr (H : Hp) (v : V) (x : Nat × Nat) : Prop := ∃ t, v = .ref t ∧ H t = some (.tup [pI x.1, pI x.2])
theorem persPr : PersT Pr := fun _ _ _ _ k ⟨t, e, h⟩ => ⟨t, e, k _ _ h⟩
theorem prMk {H : Hp} {t : Addr} {a b : Int} {x : Nat × Nat} (h : H t = some (.tup [.int a, .int b])) (ha : a = x.1) (hb : b = x.2) : Pr H (.ref t) x := by
  subst ha hb
  exact ⟨t, rfl, h⟩
/-- a tuple of things -/
def Tup {α : Type} (R : Hp → V → α → Prop) (H : Hp) (v : V) (xs : List α) : Prop := ∃ t vs, v = .ref t ∧ H t = some (.tup vs) ∧ Paired (R H) vs xs
theorem persTup {α : Type} {R : Hp → V → α → Prop} (p : PersT R) : PersT (Tup R) := fun _ _ _ _ k ⟨t, vs, e, h, q⟩ => ⟨t, vs, e, k _ _ h, pMono p k q⟩
/-- a list of things -/
def Lst {α : Type} (R : Hp → V → α → Prop) (H : Hp) (v : V) (xs : List α) : Prop := ∃ t vs, v = .ref t ∧ H t = some (.lst vs) ∧ Paired (R H) vs xs
theorem Lst.same {α : Type} {R : Hp → V → α → Prop} (p : PersT R) {H H' : Hp} {v : V} {xs : List α} (k : Same H H') : Lst R H v xs → Lst R H' v xs := fun ⟨t, vs, e, h, q⟩ => ⟨t, vs, e, k _ _ h, pMono p (sKt k) q⟩
/-- a net -/
def Net (H : Hp) (v : V) (n : Nat) (ties : List (Nat × Nat)) : Prop := ∃ t u, v = .ref t ∧ H t = some (.tup [pI n, u]) ∧ Tup Pr H u ties
theorem Net.keep {H H' : Hp} {v : V} {n : Nat} {ties : List (Nat × Nat)} (x : Net H v n ties) (k : KeepT H H') : Net H' v n ties := by
  obtain ⟨t, u, e, h, q⟩ := x
  exact ⟨t, u, e, k _ _ h, persTup persPr _ _ _ _ k q⟩
/-! ### comprehensions: the element's reading is shown for any end -/
section
variable {α β : Type} {g : TG} {tt : TT} {te : TE} {vs : List Nat} {σ : L2.St} {H1 : Hp} {D : Addr} {Qd : Hp → Prop}
theorem filterMap_take_succ {f : α → Option β} {l : List α} {i : Nat} {x : α} (h : l[i]? = some x) : (l.take (i + 1)).filterMap f = (l.take i).filterMap f ++ (f x).toList := by
  have e : l.take (i + 1) = l.take i ++ [x] := by rw [List.take_add_one, h] <;> rfl
  rw [e, List.filterMap_append]
  cases hx : f x <;> simp [hx]
/-- over a range: f says what is made of the i-th number, if anything -/
theorem comp_range {lo : Int} {n : Nat} (hn : n < sizeLine) (f : Nat → Option β) {R : Hp → V → β → Prop} (hR : PersT R) (hD : H1 D = none)
    (hs : ∀ (i : Nat) (H : Hp) (Yes : V → Hp → Prop) (No : Hp → Prop), i < n → Same H1 H → (∀ a, f i = some a → ∀ y H4, Same H H4 → R H4 y a → Yes y H4) → (f i = none → ∀ H4, Same H H4 → No H4) →
      g (.int (lo + i)) (wipe σ vs) H fun σ2 H2 => wipe σ2 vs = wipe σ vs ∧ tt σ2 H2 fun b H3 => if b = true then te σ2 H3 Yes else No H3)
    (hd : ∀ H ys, Same H1 H → H D = some (.lst ys) → Paired (R H) ys ((List.range n).filterMap f) → Qd H) :
    ∃ W : Nat → Nat → Hp → Prop, (∃ m, W 0 m (upd H1 D (.lst []))) ∧ ∀ i m H, W i m H →
      ((Itr lo n).stop i H ∧ Qd H) ∨ ((Itr lo n).go i H ∧ ∃ Nx : Hp → Prop, (∀ H', Nx H' → ∃ m', m' < m ∧ W (i + 1) m' H') ∧ ∀ x H', (Itr lo n).yld i H x H' → g x (wipe σ vs) H' fun σ2 H2 => wipe σ2 vs = wipe σ vs ∧ tt σ2 H2 fun b H3 =>
        if b = true then te σ2 H3 fun y H4 => ∃ acc, H4 D = some (.lst acc) ∧ acc.length < sizeLine ∧ Nx (upd H4 D (.lst (acc ++ [y]))) else Nx H3) := by
  have hlen : ∀ i, ((List.range n).take i).length ≤ n := fun i => by rw [List.length_take, List.length_range]; omega
  refine lc_range (lo := lo) (n := n) (fun i H => Same H1 H ∧ ∃ ys, H D = some (.lst ys) ∧ Paired (R H) ys (((List.range n).take i).filterMap f)) ⟨same_laid hD, [], upd_same, by simpa using Paired.nil⟩ ?_ ?_
  · rintro i H hi ⟨sm, ys, hy, pr⟩
    have hat : (List.range n)[i]? = some i := by simp [hi]
    have hl : ys.length < sizeLine := by
      have := pr.length
      have h2 := List.length_filterMap_le f ((List.range n).take i)
      have h3 := hlen i
      omega
    refine hs i H _ _ hi sm (fun a ha y H4 s4 r4 => ?_) (fun ha H4 s4 => ?_)
    · refine ⟨ys, s4 _ _ hy, hl, sPut (sm.trans s4) hD, ys ++ [y], upd_same, ?_⟩
      rw [filterMap_take_succ hat, ha]
      have k : KeepT H4 (upd H4 D (.lst (ys ++ [y]))) := KeepT.lst (s4 _ _ hy)
      exact pApp (pMono hR (KeepT.trans (sKt s4) k) pr) (.cons (hR _ _ _ _ k r4) .nil)
    · refine ⟨sm.trans s4, ys, s4 _ _ hy, ?_⟩
      rw [filterMap_take_succ hat, ha]
      simpa using pMono hR (sKt s4) pr
  · rintro H ⟨sm, ys, hy, pr⟩
    rw [List.take_of_length_le (by simp)] at pr
    exact hd H ys sm hy pr
/-- over a list of data -/
theorem comp_list {K : PySem.W.Frag} {a : Addr} {us : List V} {ds : List α} {Rs : Hp → V → α → Prop} (hRs : PersT Rs) (f : α → Option β) {R : Hp → V → β → Prop} (hR : PersT R) (hD : H1 D = none)
    (hl : SqL K H1 a us) (hn : us.length < sizeLine) (hp : Paired (Rs H1) us ds)
    (hs : ∀ (d : α) (x : V) (H : Hp) (Yes : V → Hp → Prop) (No : Hp → Prop), d ∈ ds → Rs H x d → Same H1 H → (∀ a, f d = some a → ∀ y H4, Same H H4 → R H4 y a → Yes y H4) → (f d = none → ∀ H4, Same H H4 → No H4) →
      g x (wipe σ vs) H fun σ2 H2 => wipe σ2 vs = wipe σ vs ∧ tt σ2 H2 fun b H3 => if b = true then te σ2 H3 Yes else No H3)
    (hd : ∀ H ys, Same H1 H → H D = some (.lst ys) → Paired (R H) ys (ds.filterMap f) → Qd H) :
    ∃ W : Nat → Nat → Hp → Prop, (∃ m, W 0 m (upd H1 D (.lst []))) ∧ ∀ i m H, W i m H →
      ((Itl K a).stop i H ∧ Qd H) ∨ ((Itl K a).go i H ∧ ∃ Nx : Hp → Prop, (∀ H', Nx H' → ∃ m', m' < m ∧ W (i + 1) m' H') ∧ ∀ x H', (Itl K a).yld i H x H' → g x (wipe σ vs) H' fun σ2 H2 => wipe σ2 vs = wipe σ vs ∧ tt σ2 H2 fun b H3 =>
        if b = true then te σ2 H3 fun y H4 => ∃ acc, H4 D = some (.lst acc) ∧ acc.length < sizeLine ∧ Nx (upd H4 D (.lst (acc ++ [y]))) else Nx H3) := by
  have hlen := hp.length
  refine lc_list (K := K) (a := a) (xs := us) (fun i H => Same H1 H ∧ ∃ ys, H D = some (.lst ys) ∧ Paired (R H) ys ((ds.take i).filterMap f)) ⟨same_laid hD, [], upd_same, by simpa using Paired.nil⟩ (fun i H _ p => p.1.seq hl) ?_ ?_
  · rintro i x H hi ⟨sm, ys, hy, pr⟩
    obtain ⟨d, hat, hrs⟩ := pAtL hp hi
    have hll : ys.length < sizeLine := by
      have := pr.length
      have h2 := List.length_filterMap_le f (ds.take i)
      have h3 : (ds.take i).length ≤ ds.length := by rw [List.length_take]; omega
      omega
    refine hs d x H _ _ (List.mem_of_getElem? hat) (hRs _ _ _ _ (sKt sm) hrs) sm (fun a ha y H4 s4 r4 => ?_) (fun ha H4 s4 => ?_)
    · refine ⟨ys, s4 _ _ hy, hll, sPut (sm.trans s4) hD, ys ++ [y], upd_same, ?_⟩
      rw [filterMap_take_succ hat, ha]
      have k : KeepT H4 (upd H4 D (.lst (ys ++ [y]))) := KeepT.lst (s4 _ _ hy)
      exact pApp (pMono hR (KeepT.trans (sKt s4) k) pr) (.cons (hR _ _ _ _ k r4) .nil)
    · refine ⟨sm.trans s4, ys, s4 _ _ hy, ?_⟩
      rw [filterMap_take_succ hat, ha]
      simpa using pMono hR (sKt s4) pr
  · rintro H ⟨sm, ys, hy, pr⟩
    rw [hlen, List.take_of_length_le (Nat.le_refl _)] at pr
    exact hd H ys sm hy pr
end
/-! ### the pairs of points, in order -/
def rowP (n x : Nat) : List (Nat × Nat) := (List.range (n - (x + 1))).map fun k => (x, x + 1 + k)
def allPairs (n : Nat) : List (Nat × Nat) := (List.range n).flatMap (rowP n)
theorem mem_rowP {n x : Nat} {p : Nat × Nat} : p ∈ rowP n x ↔ p.1 = x ∧ x < p.2 ∧ p.2 < n := by
  unfold rowP
  rw [List.mem_map]
  constructor
  · rintro ⟨k, hk, rfl⟩
    have := List.mem_range.mp hk
    exact ⟨rfl, by show x < x + 1 + k; omega, by show x + 1 + k < n; omega⟩
  · rintro ⟨h1, h2, h3⟩
    refine ⟨p.2 - (x + 1), List.mem_range.mpr (by omega), ?_⟩
    rw [← h1]
    exact Prod.ext rfl (by show p.1 + 1 + (p.2 - (p.1 + 1)) = p.2; omega)
theorem mem_allPairs {n : Nat} {p : Nat × Nat} : p ∈ allPairs n ↔ p.1 < p.2 ∧ p.2 < n := by
  unfold allPairs
  rw [List.mem_flatMap]
  constructor
  · rintro ⟨x, hx, hp⟩
    obtain ⟨h1, h2, h3⟩ := mem_rowP.mp hp
    exact ⟨by omega, h3⟩
  · rintro ⟨h1, h2⟩
    exact ⟨p.1, List.mem_range.mpr (by omega), mem_rowP.mpr ⟨rfl, h1, h2⟩⟩
theorem rowP_len (n x : Nat) : (rowP n x).length ≤ n := by
  unfold rowP
  rw [List.length_map, List.length_range]
  omega
theorem flat_len {α β : Type} (f : α → List β) (n : Nat) (h : ∀ x, (f x).length ≤ n) : ∀ l : List α, (l.flatMap f).length ≤ l.length * n
  | [] => by simp
  | x :: l => by
    rw [List.flatMap_cons, List.length_append, List.length_cons, Nat.add_mul, Nat.one_mul]
    have := flat_len f n h l
    have := h x
    omega
theorem allPairs_len (n : Nat) : (allPairs n).length ≤ n * n := by
  have := flat_len (rowP n) n (rowP_len n) (List.range n)
  rwa [List.length_range] at this
/-- the order of pairs -/
def ltP (p q : Nat × Nat) : Prop := p.1 < q.1 ∨ p.1 = q.1 ∧ p.2 < q.2
instance (p q : Nat × Nat) : Decidable (ltP p q) := by unfold ltP; infer_instance
theorem allPairs_sorted (n : Nat) : (allPairs n).Pairwise ltP := by
  unfold allPairs
  rw [List.pairwise_flatMap]
  constructor
  · intro x _
    unfold rowP
    rw [List.pairwise_map]
    exact List.Pairwise.imp (fun {a b} h => .inr ⟨rfl, by show x + 1 + a < x + 1 + b; omega⟩) List.pairwise_lt_range
  · refine List.Pairwise.imp (fun {a b} h p hp q hq => ?_) List.pairwise_lt_range
    have h1 := mem_rowP.mp hp
    have h2 := mem_rowP.mp hq
    exact .inl (by omega)
/-- what the program takes for a net's points and ties -/
def Good (n : Nat) (ties : List (Nat × Nat)) : Prop := (∀ p ∈ ties, p.1 < p.2 ∧ p.2 < n) ∧ ties.Pairwise ltP
theorem Good.filter {n : Nat} (f : Nat × Nat → Bool) : Good n ((allPairs n).filter f) :=
  ⟨fun p hp => mem_allPairs.mp ((List.mem_filter.mp hp).1), (allPairs_sorted n).filter f⟩
theorem sizeBig {n : Nat} (h : n ≤ 16000000) : n < sizeLine := Nat.lt_of_le_of_lt h (by rw [sizeLine_eq]; decide)
/-! ### dicts whose keys are pairs of points -/
abbrev DT := List (List Key × V)
def key (x : Nat × Nat) : List Key := [.inl (x.1 : Int), .inl (x.2 : Int)]
theorem key_inj {x y : Nat × Nat} (h : key x = key y) : x = y := by
  unfold key at h
  simp only [List.cons.injEq, Sum.inl.injEq] at h
  exact Prod.ext (by have := h.1; omega) (by have := h.2.1; omega)
def hasP (kvs : DT) (x : Nat × Nat) : Bool := (valV kvs (key x)).isSome
theorem hasP_put (kvs : DT) (x y : Nat × Nat) (v : V) : hasP (putK kvs (key x) v) y = (decide (y = x) || hasP kvs y) := by
  unfold hasP
  rw [valV_put]
  by_cases h : y = x
  · subst h
    simp
  · rw [if_neg (fun e => h (key_inj e))]
    simp [h]
/-! ### bounds of lists -/
theorem sub_len {α : Type} [DecidableEq α] : ∀ (l m : List α), l.Nodup → (∀ x ∈ l, x ∈ m) → l.length ≤ m.length
  | [], m, _, _ => Nat.zero_le _
  | x :: l, m, h, hs => by
    have hx : x ∈ m := hs x (List.mem_cons_self ..)
    have h1 := List.nodup_cons.mp h
    have h2 := sub_len l (m.erase x) h1.2 fun y hy => (List.mem_erase_of_ne (fun e => h1.1 (by rw [← e]; exact hy))).mpr (hs y (List.mem_cons_of_mem _ hy))
    rw [List.length_erase_of_mem hx] at h2
    have := List.length_pos_of_mem hx
    rw [List.length_cons]
    omega
def square (n : Nat) : List (Nat × Nat) := (List.range n).flatMap fun x => (List.range n).map fun y => (x, y)
theorem mem_square {n : Nat} {p : Nat × Nat} (h : p.1 < n ∧ p.2 < n) : p ∈ square n := by
  unfold square
  rw [List.mem_flatMap]
  exact ⟨p.1, List.mem_range.mpr h.1, List.mem_map.mpr ⟨p.2, List.mem_range.mpr h.2, rfl⟩⟩
theorem square_len (n : Nat) : (square n).length ≤ n * n := by
  have := flat_len (fun x : Nat => (List.range n).map fun y => (x, y)) n (fun x => by simp) (List.range n)
  rwa [List.length_range] at this
/-- the keys are pairs of points, each once -/
def KeysAre (n : Nat) (kvs : DT) (ks : List (Nat × Nat)) : Prop := kvs.map (·.1) = ks.map key ∧ (∀ k ∈ ks, k.1 < n ∧ k.2 < n) ∧ ks.Nodup
def KeysIn (n : Nat) (kvs : DT) : Prop := ∃ ks, KeysAre n kvs ks
theorem KeysIn.nil {n : Nat} : KeysIn n [] := ⟨[], rfl, by simp, List.nodup_nil⟩
theorem KeysAre.len {n : Nat} {kvs : DT} {ks : List (Nat × Nat)} (h : KeysAre n kvs ks) : kvs.length ≤ n * n := by
  obtain ⟨h1, h2, h3⟩ := h
  have e := congrArg List.length h1
  rw [List.length_map, List.length_map] at e
  have := sub_len ks (square n) h3 fun x hx => mem_square (h2 x hx)
  have := square_len n
  omega
theorem KeysIn.len {n : Nat} {kvs : DT} (h : KeysIn n kvs) : kvs.length ≤ n * n := h.elim fun _ x => x.len
theorem KeysAre.put {n : Nat} {kvs : DT} {ks : List (Nat × Nat)} {x : Nat × Nat} {v : V} (h : KeysAre n kvs ks) (hx : x.1 < n ∧ x.2 < n) : KeysAre n (putK kvs (key x) v) (if x ∈ ks then ks else ks ++ [x]) := by
  obtain ⟨h1, h2, h3⟩ := h
  by_cases hm : x ∈ ks
  · rw [if_pos hm]
    refine ⟨?_, h2, h3⟩
    have ha : (kvs.any fun kv => decide (kv.1 = key x)) = true := by
      have : key x ∈ kvs.map (·.1) := by rw [h1]; exact List.mem_map.mpr ⟨x, hm, rfl⟩
      obtain ⟨kv, hkv, e⟩ := List.mem_map.mp this
      exact List.any_eq_true.mpr ⟨kv, hkv, decide_eq_true e⟩
    unfold putK
    rw [if_pos ha, List.map_map, ← h1]
    refine List.map_congr_left fun kv _ => ?_
    show (if kv.1 = key x then (kv.1, v) else kv).1 = kv.1
    split <;> rfl
  · rw [if_neg hm]
    have hn : valV kvs (key x) = none := by
      have ha : (kvs.any fun kv => decide (kv.1 = key x)) = false := by
        rw [← Bool.not_eq_true]
        intro ha
        obtain ⟨kv, hkv, e⟩ := List.any_eq_true.mp ha
        have h4 : kv.1 ∈ kvs.map (·.1) := List.mem_map.mpr ⟨kv, hkv, rfl⟩
        rw [h1, of_decide_eq_true e] at h4
        obtain ⟨k', hk, e2⟩ := List.mem_map.mp h4
        exact hm (key_inj e2 ▸ hk)
      rw [valV_any] at ha
      simpa using ha
    rw [putK_new v hn]
    refine ⟨by rw [List.map_append, List.map_append, h1]; rfl, fun k hk => ?_, ?_⟩
    · rcases List.mem_append.mp hk with hk | hk
      · exact h2 k hk
      · rw [List.mem_singleton.mp hk]
        exact hx
    · rw [List.nodup_append]
      exact ⟨h3, by simp, fun a ha b hb e => hm (by rw [List.mem_singleton] at hb; rw [← hb, ← e]; exact ha)⟩
theorem KeysIn.put {n : Nat} {kvs : DT} {x : Nat × Nat} {v : V} (h : KeysIn n kvs) (hx : x.1 < n ∧ x.2 < n) : KeysIn n (putK kvs (key x) v) := h.elim fun _ y => ⟨_, y.put hx⟩
theorem KeysIn.drop {n : Nat} {kvs : DT} {k : List Key} (h : KeysIn n kvs) : KeysIn n (dropK kvs k) := by
  obtain ⟨ks, h1, h2, h3⟩ := h
  refine ⟨ks.filter fun x => decide (key x ≠ k), ?_, fun x hx => h2 x (List.mem_filter.mp hx).1, h3.filter _⟩
  unfold dropK
  have : ∀ (kvs : DT) (ks : List (Nat × Nat)), kvs.map (·.1) = ks.map key → (kvs.filter fun kv => decide (kv.1 ≠ k)).map (·.1) = (ks.filter fun x => decide (key x ≠ k)).map key := by
    intro kvs
    induction kvs with
    | nil =>
      intro ks e
      cases ks with
      | nil => rfl
      | cons a b => simp at e
    | cons kv kvs ih =>
      intro ks e
      cases ks with
      | nil => simp at e
      | cons a ks =>
        simp only [List.map_cons, List.cons.injEq] at e
        rw [List.filter_cons, List.filter_cons, e.1]
        split
        · rw [List.map_cons, List.map_cons, ih ks e.2, e.1]
        · exact ih ks e.2
  exact this kvs ks h1
/-- a pair of whole numbers -/
def PrZ (H : Hp) (v : V) (x : Int × Int) : Prop := ∃ t, v = .ref t ∧ H t = some (.tup [.int x.1, .int x.2])
theorem persPrZ : PersT PrZ := fun _ _ _ _ k ⟨t, e, h⟩ => ⟨t, e, k _ _ h⟩
end Ns
/-! Own layer S: rules for dicts whose keys are tuples: pop of one that is there, sorted, dict(pairs), dict(d), len. -/
namespace Ns
open PySem PySem.Spec PyProof.Rows L2
def adr : Value → Addr
  | .ref a => a
  | _ => 0
/-- the pair of ints that stands at a place -/
def pkI (H : Hp) (t : Addr) : Int × Int := match H t with
  | some (.tup [.int i, .int j]) => (i, j)
  | _ => (0, 0)
theorem pkI_of {H : Hp} {t : Addr} {i j : Int} (h : H t = some (.tup [.int i, .int j])) : pkI H t = (i, j) := by unfold pkI; rw [h]
def pk (H : Hp) (t : Addr) : Nat × Nat := ((pkI H t).1.toNat, (pkI H t).2.toNat)
theorem pk_of {H : Hp} {t : Addr} {x : Nat × Nat} (h : H t = some (.tup [pI x.1, pI x.2])) : pk H t = x := by
  unfold pk
  rw [pkI_of h]
  exact Prod.ext rfl rfl
end Ns
/-! Own layer Lam: sorted by a lambda's keys. -/
namespace Ns
open PySem PySem.Spec PyProof.Rows L2
/-! ### evaluation that keeps all that was there -/
def Kps (h h' : Heap) : Prop := ∀ b o, h.get? b = some o → h'.get? b = some o
theorem Kps.refl (h : Heap) : Kps h h := fun _ _ e => e
theorem Kps.trans {h h' h'' : Heap} (a : Kps h h') (b : Kps h' h'') : Kps h h'' := fun c o e => b c o (a c o e)
/-! ### a lambda of one parameter -/
/-- its names: the parameter x, captured ones, globals -/
structure LamS1 (sc scope : Scope) (x : Str) : Prop where
  kind : scope.kind = .function
  co : scope.isCoroutine = false
  gen : scope.isGenerator = false
  cel : ∀ y ∈ scope.names, y.2 ≠ .cell
  par : scope.names.lookup x = some .local
  free : ∀ y ∈ scope.names, y.2 = .free → sc.names.lookup y.1 = some .cell ∨ sc.names.lookup y.1 = some .free
open LamX
section
variable {X : Cx} {pins : List (Addr × Obj)} {σ : L2.St} {H : Hp} {s : Shared}
theorem LamS1.has {scope : Scope} {x : Str} (L : LamS1 X.env.scope scope x) (ok : X.Ok) : ∀ y ∈ scope.names, y.2 = .free → ∃ c, X.env.cells.lookup y.1 = some c := fun y hy e => by
  rcases L.free y hy e with k | k
  · exact ok.has _ (.inl k)
  · exact ok.has _ (.inr k)
end
/-! ### sorted(e, key=lambda x: ..) -/
end Ns
/-! Own layer Sd: how many unlike ints a set display has; defs whose code is known. -/
namespace Ns
open PySem PySem.Spec PyProof.Rows L2
/-! ### a def's code -/
section
variable {P : Program} {w : World} {K : PySem.W.Frag} {mg : Str → Option Value} {base : Heap}
/-- where a def stands whose code object is at c -/
structure AtL (K : PySem.W.Frag) (mg : Str → Option Value) (x : Str) (st : Stmt) (c : Addr) : Prop where
  ex : ∃ (f : Addr) (fd : FuncData), FnP K x st f fd ∧ mg x = some (.ref f) ∧ fd.code = .ref c
theorem AtL.cal {x : Str} {st : Stmt} {N ps : List Str} {k : Nat} {sp : Sp} {c : Addr} (F : AtL K mg x st c) (S : FnScope N ps (defScope st))
    (hb : ∀ (kV doc pm : Value) (an : Option Addr) (cdv ct : Value) (us : List Value), us.length = ps.length → bindArgs (PySem.W.fnOf x x (defArgs st) (defBody st) (defScope st) .none kV doc pm an cdv ct) ⟨us, []⟩ = pure (ps.zip us))
    (len : ∀ vs H Q E, sp vs H Q E → vs.length = ps.length)
    (hbody : ∀ (f : Addr) (A : Around) (outer : List Env) (s : Shared) (H : Hp) (vs : List V) (Q : VK) (E : XK), Room k (A.deeper (envOfC x (defScope st) s.heap.objs.size f (.ref c))) → sp vs H Q E →
      ∃ t, PSs (cxOf (L2.CX P w) P w K mg base N x (defScope st) f (.ref c) A outer s H E) (defBody st) t ∧ t { nx := fun _ H' => Q .non H', rt := Q } (start N vs) H) : Cal P w K mg base (k + 1) x sp := by
  obtain ⟨f, fd, F, hm, hc⟩ := F.ex
  refine ⟨f, fd, ps, ?_, hm, F.kp, F.bindsN hb⟩
  obtain ⟨oc, od, dV, kV, doc, pm, an, cdv, ct, osl, rfl, lk, hcd, _, _⟩ := F.ex
  have e : cdv = .ref c := hc
  subst e
  exact fn_of lk hcd S len fun A outer s H vs Q E hr hsp => hbody f A outer s H vs Q E hr hsp
end
/-! ### len({a, b, c, d}) -/
end Ns
/-! Own layer Hl: heads and ends of laws with lambdas: the tables of the defs that hold them. -/
/-! Own layer: facts that heads look for: tuples of texts, tables. -/
namespace Ns
open PySem PySem.Spec PyProof.Rows L2 LamX
/-- these are the texts ys -/
def strsB : List Value → List Str → Bool
  | [], [] => true
  | .str x _ :: us, y :: ys => decide (x = y) && strsB us ys
  | _, _ => false
theorem strs_vals : ∀ {us : List Value} {ys : List Str}, strsB us ys = true → Vals (ys.map V.str) us
  | [], [], _ => .nil
  | .str x t :: us, y :: ys, h => by
    obtain ⟨h1, h2⟩ := He.ba h
    refine .cons ?_ (strs_vals h2)
    exact ⟨t, by rw [of_decide_eq_true h1]⟩
/-- the module's name x is a tuple of these texts -/
def strsT (x : Str) (ys : List Str) : FT := fun K => (He.Fa.glo x).ok K && (match K.lookup (He.ga K x) with
  | some o => decide (o.cls = .type "tuple") && (match o.data with
    | .seq its _ => decide (its.size ≤ 1000) && strsB its.toList ys
    | _ => false)
  | none => false)
def kindsL : List Str := ["colours", "forest", "chordal", "split", "threshold", "nested", "cograph", "arrows", "lines", "stretches", "equal", "drawn", "round", "sewn"]
def tabT (x : Str) (kvs : List (Str × He.Dv)) : FT := fun K => (He.Fa.glo x).ok K && He.valsB K (He.ga K x) kvs
theorem strs_ok {K : PySem.W.Frag} {h : Heap} {mg : Str → Option Value} {x : Str} {ys : List Str} (X : K.In h) (G : h.Ns mainGlobals mg) (c : strsT x ys K = true) : mg x = some (.ref (He.ga K x)) ∧ ∀ H, SqT K H (He.ga K x) (ys.map V.str) := by
  obtain ⟨c1, c2⟩ := He.ba c
  refine ⟨He.glo_ok X G c1, fun H => .inr ?_⟩
  cases e : K.lookup (He.ga K x) with
  | none => rw [e] at c2; cases c2
  | some o =>
    rw [e] at c2
    obtain ⟨c3, c4⟩ := He.ba c2
    cases ed : o.data with
    | seq its n =>
      rw [ed] at c4
      obtain ⟨c5, c6⟩ := He.ba c4
      exact ⟨o, its, n, rfl, of_decide_eq_true c3, ed, Nat.le_of_lt (sizeBig (by have := of_decide_eq_true c5; omega)), strs_vals c6⟩
    | _ => rw [ed] at c4; cases c4
end Ns
/-! Own layer H: the end, where a callee's errors are told by a context of the world's. -/
namespace Ns
open PySem PySem.Spec PyProof.Rows L2
section
variable {l : PySem.W.OpenLaw} {n k : Nat} {q : Program} {loose : List Str} {d : DefRec} {x : Str}
variable {XP : (Str → Option Value) → Heap → Prop}
variable {YP : World → Heap → Prop}
/-- the law's object keeps the law at a heap that says YP -/
def EndAt (l : PySem.W.OpenLaw) (w : World) (mg : Str → Option Value) (fa : Addr) (n k : Nat) (x : Str) (h : Heap) : Prop :=
  ∃ (K : PySem.W.Frag) (fd : FuncData) (sp : Sp), K.In h ∧
    (∀ (s : Shared) (u : Value), BindsTo s fd ⟨[u], []⟩ [(x, u)]) ∧
    (∀ (H : Hp) (a : Addr) (is : List Int), is.length ≤ n → SqL K H a (is.map V.int) →
      sp [.ref a] H (fun v _ => v = .bl true) fun _ _ _ => False) ∧
    ∀ base : Heap, K.In base → base.Ns mainGlobals mg → FnOk l.prog w K mg base (L2.CX l.prog w) k fa fd [x] sp
theorem end_walk (hn : l.most = some n) (small : n ≤ sizeLine) (plain : d.params.defaults = [])
    (room : Room k callerA)
    (F : ∀ w mg fa h, YP w h → h.Ns mainGlobals mg → mg d.name = some (.ref fa) → EndAt l w mg fa n k x h) :
    PySem.W.WalkO q loose XP YP l.row.toRowW d [] (fun f vs => PySem.call f vs) := by
  refine Att.attach_call hn plain ?_
  intro w s₀ s₁ mg mb fa o pm cd doc a vs is G Y ho hd hcd hmg hobj hints hlen hg
  have z := F w mg fa _ Y G.T.g hmg
  obtain ⟨K, fd, sp, KX, hb, hsp, hF⟩ := z
  have le := Nat.le_trans hlen small
  have nothing : ∀ (H : Hp) (e : Value) (s' : Shared), L2.CX l.prog w [] H s₁ (fun _ _ _ => False) e s' → False := by
    intro H e s' c
    obtain ⟨_, _, _, _, _, _, _, _, _, _, _, _, no⟩ := c
    exact no
  refine law_call KX G.T.g G.T.b G.T.builtins G.T.nolimit hg hobj hints le room hF hb ?_ nothing
  intro H _ hS
  exact hsp H a is hlen hS
end
end Ns
namespace Ns
open PySem PySem.Spec PyProof.Rows L2 LamX
def top (i : Nat) : Stmt := PySem.Challenge.pw_netstory_k04_equal_stretches_or_a_claw.main.body.getD i (.Pass ⟨0, 0, 0, 0⟩)
abbrev s_law_box : Stmt := top 145
abbrev s_law_take : Stmt := top 146
abbrev s_law_pick : Stmt := top 147
abbrev s_law_pairs : Stmt := top 148
abbrev s_matrix : Stmt := top 14
abbrev s_law_table : Stmt := top 151
abbrev s_is_number : Stmt := top 7
abbrev s_is_pair : Stmt := top 8
abbrev s_is_net : Stmt := top 9
abbrev s_check_net : Stmt := top 10
abbrev s_neighbours_nets : Stmt := top 15
abbrev s_is_point : Stmt := top 11
abbrev s_check_points : Stmt := top 12
abbrev s_neighbours_arrows : Stmt := top 19
abbrev s_forced : Stmt := top 21
abbrev s_forced_from : Stmt := top 22
abbrev s_chain : Stmt := top 23
abbrev s_turned_round : Stmt := top 24
abbrev s_arrows_of : Stmt := top 25
abbrev s_reached : Stmt := top 59
abbrev s_traced : Stmt := top 60
abbrev s_way_off : Stmt := top 63
abbrev s_is_tuple : Stmt := top 91
abbrev s_are_points : Stmt := top 92
abbrev s_are_numbers : Stmt := top 94
abbrev s_is_ring : Stmt := top 97
abbrev s_law_whole : Stmt := top 154
abbrev s_law_points : Stmt := top 155
abbrev s_law_unlike : Stmt := top 156
abbrev s_law_fixed : Stmt := top 149
abbrev s_law_by : Stmt := top 150
abbrev s_law_built : Stmt := top 152
abbrev s_law_net : Stmt := top 153
abbrev s_is_long_ring : Stmt := top 98
abbrev s_is_rest : Stmt := top 100
abbrev s_is_way : Stmt := top 96
abbrev s_is_way_off : Stmt := top 137
abbrev s_place_stretches : Stmt := top 138
abbrev s_pieces_off : Stmt := top 69
abbrev s_three : Stmt := top 70
abbrev s_claw : Stmt := top 72
abbrev s_sweep : Stmt := top 73
abbrev s_places : Stmt := top 74
abbrev s_long_ring : Stmt := top 65
abbrev s_opposite : Stmt := top 17
abbrev s_stretches_of : Stmt := top 71
abbrev s_equal_of : Stmt := top 75
abbrev s_story_equal : Stmt := top 129
abbrev s_place_equal : Stmt := top 139
abbrev s_law_is_bare_ring : Stmt := top 157
abbrev s_law_is_way : Stmt := top 158
abbrev s_law_is_bent : Stmt := top 159
abbrev s_law_is_equal : Stmt := top 160
abbrev s_law_is_clawed : Stmt := top 161
abbrev s_check_kind : Stmt := top 87
abbrev s_tell : Stmt := top 88
abbrev s_is_of : Stmt := top 89
abbrev s_judge : Stmt := top 143
abbrev s_law : Stmt := top 162
end Ns
/-! Own layer: the head and the end of k04. -/
namespace Ns
open PySem PySem.Spec PyProof.Rows L2 LamX
def rawT_KINDS : FT := strsT "KINDS" kindsL
def rawT_TELLERS : FT := tabT "TELLERS" [("equal", .glo "equal_of")]
def rawT_STORIES : FT := tabT "STORIES" [("equal", .glo "story_equal")]
def rawT_PLACES : FT := tabT "PLACES" [("equal", .glo "place_equal")]
abbrev R : PySem.W.OpenRow := PySem.W.OpenLaw.row PySem.Challenge.rw_netstory_k04_equal_stretches_or_a_claw
def loose0 : List PySem.Str := ["NetstoryError", "BadNet", "BadKind", "BadPoint", "MOST", "is_number", "is_pair", "is_net", "check_net", "is_point", "check_points", "made", "matrix", "neighbours", "neighbours_nets", "opposite", "neighbours_arrows", "forced", "forced_from", "_chain", "_turned_round", "arrows_of", "_by_arrows", "lines_of", "drawn_of", "round_of", "sewn_of", "with_top", "taken_away", "thinned"]
def loose1 : List PySem.Str := ["blocks", "taken_off", "drawing", "block_drawing", "mark", "first_circle", "fragments", "through", "parted", "ends_and_ways", "great_place", "small_place", "pieces_by", "_threshold_end", "_crossed", "threshold_of", "top_of", "_bent", "nested_of", "_in_a_row", "_cograph", "cograph_of", "reached", "traced", "pieces", "pieces_of", "way_off", "ring", "long_ring", "halves"]
def loose2 : List PySem.Str := ["closed", "_pieces_off", "_three", "stretches_of", "_claw", "_sweep", "_places", "equal_of", "colours_of", "forest_of", "next_clean", "chordal_of", "is_split", "apart_ties", "split_of", "KINDS", "TELLERS", "check_kind", "tell", "is_of", "is_tuple", "are_points", "is_row", "are_numbers", "are_pairs", "is_way", "is_ring", "is_long_ring", "is_company", "is_rest"]
def loose3 : List PySem.Str := ["is_path_of_four", "is_turning", "rounds", "judge_drawn", "crowned", "judge_round", "are_ways", "all_ends", "across_ends", "is_inner", "judge_kuratowski", "judge_four", "judge_two_and_three", "story_colours", "above", "story_forest", "story_nested", "story_chordal", "story_split", "story_threshold", "leaves", "sort_between", "story_cograph", "story_arrows", "story_lines", "story_stretches", "story_equal", "story_sewn", "place_split", "place_threshold"]
def loose4 : List PySem.Str := ["place_nested", "forces", "place_arrows", "place_lines", "is_way_off", "place_stretches", "place_equal", "STORIES", "place_colours", "PLACES", "judge", "_law_box", "_law_take", "_law_pick", "_law_pairs", "_law_fixed", "_law_by", "_law_table", "_law_built", "_law_net", "_law_whole", "_law_points", "_law_unlike", "_law_is_bare_ring", "_law_is_way", "_law_is_bent", "_law_is_equal", "_law_is_clawed"]
abbrev loose : List PySem.Str := loose0 ++ loose1 ++ loose2 ++ loose3 ++ loose4
def d_is_number : He.DefD := ⟨("is_number", none), "is_number", "is_number", defArgs s_is_number, defBody s_is_number, defScope s_is_number, [], []⟩
def d_is_pair : He.DefD := ⟨("is_pair", none), "is_pair", "is_pair", defArgs s_is_pair, defBody s_is_pair, defScope s_is_pair, [], []⟩
def d_is_net : He.DefD := ⟨("is_net", none), "is_net", "is_net", defArgs s_is_net, defBody s_is_net, defScope s_is_net, [], []⟩
def d_check_net : He.DefD := ⟨("check_net", none), "check_net", "check_net", defArgs s_check_net, defBody s_check_net, defScope s_check_net, [], []⟩
def d_is_point : He.DefD := ⟨("is_point", none), "is_point", "is_point", defArgs s_is_point, defBody s_is_point, defScope s_is_point, [], []⟩
def d_check_points : He.DefD := ⟨("check_points", none), "check_points", "check_points", defArgs s_check_points, defBody s_check_points, defScope s_check_points, [], []⟩
def d_matrix : He.DefD := ⟨("matrix", none), "matrix", "matrix", defArgs s_matrix, defBody s_matrix, defScope s_matrix, [], []⟩
def d_opposite : He.DefD := ⟨("opposite", none), "opposite", "opposite", defArgs s_opposite, defBody s_opposite, defScope s_opposite, [], []⟩
def d_forced : He.DefD := ⟨("forced", none), "forced", "forced", defArgs s_forced, defBody s_forced, defScope s_forced, [], []⟩
def d_forced_from : He.DefD := ⟨("forced_from", none), "forced_from", "forced_from", defArgs s_forced_from, defBody s_forced_from, defScope s_forced_from, [], []⟩
def d_chain : He.DefD := ⟨("_chain", none), "_chain", "_chain", defArgs s_chain, defBody s_chain, defScope s_chain, [], []⟩
def d_turned_round : He.DefD := ⟨("_turned_round", none), "_turned_round", "_turned_round", defArgs s_turned_round, defBody s_turned_round, defScope s_turned_round, [], []⟩
def d_arrows_of : He.DefD := ⟨("arrows_of", none), "arrows_of", "arrows_of", defArgs s_arrows_of, defBody s_arrows_of, defScope s_arrows_of, [], []⟩
def d_reached : He.DefD := ⟨("reached", none), "reached", "reached", defArgs s_reached, defBody s_reached, defScope s_reached, [], []⟩
def d_traced : He.DefD := ⟨("traced", none), "traced", "traced", defArgs s_traced, defBody s_traced, defScope s_traced, [], []⟩
def d_way_off : He.DefD := ⟨("way_off", none), "way_off", "way_off", defArgs s_way_off, defBody s_way_off, defScope s_way_off, [], []⟩
def d_long_ring : He.DefD := ⟨("long_ring", none), "long_ring", "long_ring", defArgs s_long_ring, defBody s_long_ring, defScope s_long_ring, [], []⟩
def d_pieces_off : He.DefD := ⟨("_pieces_off", none), "_pieces_off", "_pieces_off", defArgs s_pieces_off, defBody s_pieces_off, defScope s_pieces_off, [], []⟩
def d_three : He.DefD := ⟨("_three", none), "_three", "_three", defArgs s_three, defBody s_three, defScope s_three, [], []⟩
def d_stretches_of : He.DefD := ⟨("stretches_of", none), "stretches_of", "stretches_of", defArgs s_stretches_of, defBody s_stretches_of, defScope s_stretches_of, [], []⟩
def d_claw : He.DefD := ⟨("_claw", none), "_claw", "_claw", defArgs s_claw, defBody s_claw, defScope s_claw, [], []⟩
def d_sweep : He.DefD := ⟨("_sweep", none), "_sweep", "_sweep", defArgs s_sweep, defBody s_sweep, defScope s_sweep, [], []⟩
def d_places : He.DefD := ⟨("_places", none), "_places", "_places", defArgs s_places, defBody s_places, defScope s_places, [], []⟩
def d_equal_of : He.DefD := ⟨("equal_of", none), "equal_of", "equal_of", defArgs s_equal_of, defBody s_equal_of, defScope s_equal_of, [], []⟩
def d_check_kind : He.DefD := ⟨("check_kind", none), "check_kind", "check_kind", defArgs s_check_kind, defBody s_check_kind, defScope s_check_kind, [.glo "KINDS"], []⟩
def d_tell : He.DefD := ⟨("tell", none), "tell", "tell", defArgs s_tell, defBody s_tell, defScope s_tell, [], []⟩
def d_is_of : He.DefD := ⟨("is_of", none), "is_of", "is_of", defArgs s_is_of, defBody s_is_of, defScope s_is_of, [], []⟩
def d_is_tuple : He.DefD := ⟨("is_tuple", none), "is_tuple", "is_tuple", defArgs s_is_tuple, defBody s_is_tuple, defScope s_is_tuple, [], []⟩
def d_are_points : He.DefD := ⟨("are_points", none), "are_points", "are_points", defArgs s_are_points, defBody s_are_points, defScope s_are_points, [], []⟩
def d_are_numbers : He.DefD := ⟨("are_numbers", none), "are_numbers", "are_numbers", defArgs s_are_numbers, defBody s_are_numbers, defScope s_are_numbers, [], []⟩
def d_is_way : He.DefD := ⟨("is_way", none), "is_way", "is_way", defArgs s_is_way, defBody s_is_way, defScope s_is_way, [], []⟩
def d_is_ring : He.DefD := ⟨("is_ring", none), "is_ring", "is_ring", defArgs s_is_ring, defBody s_is_ring, defScope s_is_ring, [], []⟩
def d_is_long_ring : He.DefD := ⟨("is_long_ring", none), "is_long_ring", "is_long_ring", defArgs s_is_long_ring, defBody s_is_long_ring, defScope s_is_long_ring, [], []⟩
def d_is_rest : He.DefD := ⟨("is_rest", none), "is_rest", "is_rest", defArgs s_is_rest, defBody s_is_rest, defScope s_is_rest, [], []⟩
def d_story_equal : He.DefD := ⟨("story_equal", none), "story_equal", "story_equal", defArgs s_story_equal, defBody s_story_equal, defScope s_story_equal, [], []⟩
def d_is_way_off : He.DefD := ⟨("is_way_off", none), "is_way_off", "is_way_off", defArgs s_is_way_off, defBody s_is_way_off, defScope s_is_way_off, [], []⟩
def d_place_stretches : He.DefD := ⟨("place_stretches", none), "place_stretches", "place_stretches", defArgs s_place_stretches, defBody s_place_stretches, defScope s_place_stretches, [], []⟩
def d_place_equal : He.DefD := ⟨("place_equal", none), "place_equal", "place_equal", defArgs s_place_equal, defBody s_place_equal, defScope s_place_equal, [], []⟩
def d_judge : He.DefD := ⟨("judge", none), "judge", "judge", defArgs s_judge, defBody s_judge, defScope s_judge, [], []⟩
def d_law_box : He.DefD := ⟨("_law_box", none), "_law_box", "_law_box", defArgs s_law_box, defBody s_law_box, defScope s_law_box, [], []⟩
def d_law_take : He.DefD := ⟨("_law_take", none), "_law_take", "_law_take", defArgs s_law_take, defBody s_law_take, defScope s_law_take, [], []⟩
def d_law_pick : He.DefD := ⟨("_law_pick", none), "_law_pick", "_law_pick", defArgs s_law_pick, defBody s_law_pick, defScope s_law_pick, [], []⟩
def d_law_pairs : He.DefD := ⟨("_law_pairs", none), "_law_pairs", "_law_pairs", defArgs s_law_pairs, defBody s_law_pairs, defScope s_law_pairs, [], []⟩
def d_law_fixed : He.DefD := ⟨("_law_fixed", none), "_law_fixed", "_law_fixed", defArgs s_law_fixed, defBody s_law_fixed, defScope s_law_fixed, [], []⟩
def d_law_by : He.DefD := ⟨("_law_by", none), "_law_by", "_law_by", defArgs s_law_by, defBody s_law_by, defScope s_law_by, [], []⟩
def d_law_table : He.DefD := ⟨("_law_table", none), "_law_table", "_law_table", defArgs s_law_table, defBody s_law_table, defScope s_law_table, [], []⟩
def d_law_built : He.DefD := ⟨("_law_built", none), "_law_built", "_law_built", defArgs s_law_built, defBody s_law_built, defScope s_law_built, [], []⟩
def d_law_net : He.DefD := ⟨("_law_net", none), "_law_net", "_law_net", defArgs s_law_net, defBody s_law_net, defScope s_law_net, [], []⟩
def d_law_whole : He.DefD := ⟨("_law_whole", none), "_law_whole", "_law_whole", defArgs s_law_whole, defBody s_law_whole, defScope s_law_whole, [], []⟩
def d_law_points : He.DefD := ⟨("_law_points", none), "_law_points", "_law_points", defArgs s_law_points, defBody s_law_points, defScope s_law_points, [], []⟩
def d_law_unlike : He.DefD := ⟨("_law_unlike", none), "_law_unlike", "_law_unlike", defArgs s_law_unlike, defBody s_law_unlike, defScope s_law_unlike, [], []⟩
def d_law_is_bare_ring : He.DefD := ⟨("_law_is_bare_ring", none), "_law_is_bare_ring", "_law_is_bare_ring", defArgs s_law_is_bare_ring, defBody s_law_is_bare_ring, defScope s_law_is_bare_ring, [], []⟩
def d_law_is_way : He.DefD := ⟨("_law_is_way", none), "_law_is_way", "_law_is_way", defArgs s_law_is_way, defBody s_law_is_way, defScope s_law_is_way, [], []⟩
def d_law_is_bent : He.DefD := ⟨("_law_is_bent", none), "_law_is_bent", "_law_is_bent", defArgs s_law_is_bent, defBody s_law_is_bent, defScope s_law_is_bent, [], []⟩
def d_law_is_equal : He.DefD := ⟨("_law_is_equal", none), "_law_is_equal", "_law_is_equal", defArgs s_law_is_equal, defBody s_law_is_equal, defScope s_law_is_equal, [], []⟩
def d_law_is_clawed : He.DefD := ⟨("_law_is_clawed", none), "_law_is_clawed", "_law_is_clawed", defArgs s_law_is_clawed, defBody s_law_is_clawed, defScope s_law_is_clawed, [], []⟩
def d_neighbours_nets : He.DefD := ⟨("neighbours_nets", none), "neighbours", "neighbours", defArgs s_neighbours_nets, defBody s_neighbours_nets, defScope s_neighbours_nets, [], []⟩
def d_neighbours_arrows : He.DefD := ⟨("neighbours_arrows", none), "neighbours", "neighbours", defArgs s_neighbours_arrows, defBody s_neighbours_arrows, defScope s_neighbours_arrows, [], []⟩
def d_law : He.DefD := ⟨("law", none), "law", "law", defArgs s_law, defBody s_law, defScope s_law, [], []⟩
def fn : List He.DefD := [d_is_number, d_is_pair, d_is_net, d_check_net, d_is_point, d_check_points, d_matrix, d_opposite, d_forced, d_forced_from, d_chain, d_turned_round, d_arrows_of, d_reached, d_traced, d_way_off, d_long_ring, d_pieces_off, d_three, d_stretches_of, d_claw, d_sweep, d_places, d_equal_of, d_check_kind, d_tell, d_is_of, d_is_tuple, d_are_points, d_are_numbers, d_is_way, d_is_ring, d_is_long_ring, d_is_rest, d_story_equal, d_is_way_off, d_place_stretches, d_place_equal, d_judge, d_law_box, d_law_take, d_law_pick, d_law_pairs, d_law_fixed, d_law_by, d_law_table, d_law_built, d_law_net, d_law_whole, d_law_points, d_law_unlike, d_law_is_bare_ring, d_law_is_way, d_law_is_bent, d_law_is_equal, d_law_is_clawed, d_neighbours_nets, d_neighbours_arrows, d_law]
def fx : List FT := [biT, excT "BadNet", excT "BadKind", excT "BadPoint", fun K => (He.Fa.int "MOST" 40).ok K, rawT_KINDS, rawT_TELLERS, rawT_STORIES, rawT_PLACES, fun K => (He.Fa.glo "is_number").ok K, fun K => (He.Fa.glo "is_pair").ok K, fun K => (He.Fa.glo "is_net").ok K, fun K => (He.Fa.glo "check_net").ok K, fun K => (He.Fa.glo "is_point").ok K, fun K => (He.Fa.glo "check_points").ok K, fun K => (He.Fa.glo "matrix").ok K, fun K => (He.Fa.glo "opposite").ok K, fun K => (He.Fa.glo "forced").ok K, fun K => (He.Fa.glo "forced_from").ok K, fun K => (He.Fa.glo "_chain").ok K, fun K => (He.Fa.glo "_turned_round").ok K, fun K => (He.Fa.glo "arrows_of").ok K, fun K => (He.Fa.glo "reached").ok K, fun K => (He.Fa.glo "traced").ok K, fun K => (He.Fa.glo "way_off").ok K, fun K => (He.Fa.glo "long_ring").ok K, fun K => (He.Fa.glo "_pieces_off").ok K, fun K => (He.Fa.glo "_three").ok K, fun K => (He.Fa.glo "stretches_of").ok K, fun K => (He.Fa.glo "_claw").ok K, fun K => (He.Fa.glo "_sweep").ok K, fun K => (He.Fa.glo "_places").ok K, fun K => (He.Fa.glo "equal_of").ok K, fun K => (He.Fa.glo "check_kind").ok K, fun K => (He.Fa.glo "tell").ok K, fun K => (He.Fa.glo "is_of").ok K, fun K => (He.Fa.glo "is_tuple").ok K, fun K => (He.Fa.glo "are_points").ok K, fun K => (He.Fa.glo "are_numbers").ok K, fun K => (He.Fa.glo "is_way").ok K, fun K => (He.Fa.glo "is_ring").ok K, fun K => (He.Fa.glo "is_long_ring").ok K, fun K => (He.Fa.glo "is_rest").ok K, fun K => (He.Fa.glo "story_equal").ok K, fun K => (He.Fa.glo "is_way_off").ok K, fun K => (He.Fa.glo "place_stretches").ok K, fun K => (He.Fa.glo "place_equal").ok K, fun K => (He.Fa.glo "judge").ok K, fun K => (He.Fa.glo "_law_box").ok K, fun K => (He.Fa.glo "_law_take").ok K, fun K => (He.Fa.glo "_law_pick").ok K, fun K => (He.Fa.glo "_law_pairs").ok K, fun K => (He.Fa.glo "_law_fixed").ok K, fun K => (He.Fa.glo "_law_by").ok K, fun K => (He.Fa.glo "_law_table").ok K, fun K => (He.Fa.glo "_law_built").ok K, fun K => (He.Fa.glo "_law_net").ok K, fun K => (He.Fa.glo "_law_whole").ok K, fun K => (He.Fa.glo "_law_points").ok K, fun K => (He.Fa.glo "_law_unlike").ok K, fun K => (He.Fa.glo "_law_is_bare_ring").ok K, fun K => (He.Fa.glo "_law_is_way").ok K, fun K => (He.Fa.glo "_law_is_bent").ok K, fun K => (He.Fa.glo "_law_is_equal").ok K, fun K => (He.Fa.glo "_law_is_clawed").ok K, fun K => (He.Fa.glo "neighbours_nets").ok K, fun K => (He.Fa.glo "neighbours_arrows").ok K, fun K => (He.Fa.glo "law").ok K]
def ts : List He.Tab := [(fun K => He.ga K "TELLERS", ["colours", "forest", "chordal", "split", "threshold", "nested", "cograph", "arrows", "lines", "stretches", "equal", "drawn", "round", "sewn"]), (fun K => He.ga K "STORIES", ["colours", "forest", "chordal", "split", "threshold", "nested", "cograph", "arrows", "lines", "stretches", "equal", "drawn", "round", "sewn"]), (fun K => He.ga K "PLACES", ["colours", "forest", "chordal", "split", "threshold", "nested", "cograph", "arrows", "lines", "stretches", "equal", "drawn", "round", "sewn"])]
abbrev hk : PySem.W.Hook := hookXT 2 fx fn ts
def ob (s : PySem.W.SharedT) : AlX := obsXTG 2 fx fn ts (HandSHeadRun.getT s)
theorem ob_eq (s : PySem.W.SharedT) : ob s = hk.obs s.abs := obsXTG_eq (HandSHeadRun.getT_eq s)
theorem map_two {α β γ δ : Type} {o : Option α} {f : α → β × γ} {g : α → δ} {a : β} {b : γ} {c : δ} (h1 : o.map f = some (a, b)) (h2 : o.map g = some c) : o.map (fun s => ((f s).1, (f s).2, g s)) = some (a, b, c) := by
  cases o with
  | none => cases h1
  | some x =>
    have h1 : f x = (a, b) := Option.some.inj h1
    have h2 : g x = c := Option.some.inj h2
    show some ((f x).1, (f x).2, g x) = _
    rw [h1, h2]
open HandSHeadRun PySem.W in
theorem head_a_false (w : World) : ∀ os : OsState, (endF (stepQ (denQ tabQ) R.prog (w.withFollow "special-get-raises" false)) 20000 R.prog (w.withFollow "special-get-raises" false) os).map (fun s => (looksF R.prog (boot_heap (w.withFollow "special-get-raises" false).params) s.abs, seenQ (PySem.W.view R.prog [162]) loose (importedModules R.prog.main.body) (fun s => xlAt (PySem.W.view R.prog [162]) [] s && recOk R.toRowW.records s) s.abs)) = some (true, openGood (PySem.W.view R.prog [162]) loose) := by
  intro os
  kernel_rfl
open HandSHeadRun PySem.W in
theorem head_o_false (w : World) : ∀ os : OsState, (endF (stepQ (denQ tabQ) R.prog (w.withFollow "special-get-raises" false)) 20000 R.prog (w.withFollow "special-get-raises" false) os).map ob = some (hk.val (w.withFollow "special-get-raises" false)) := by
  intro os
  kernel_rfl
theorem head_run_false (w : World) : HandSHeadRun.RunEq R (PySem.W.view R.prog [162]) hk ob 20000 loose (w.withFollow "special-get-raises" false) := fun os => map_two (head_a_false w os) (head_o_false w os)
open HandSHeadRun PySem.W in
theorem head_a_true (w : World) : ∀ os : OsState, (endF (stepQ (denQ tabQ) R.prog (w.withFollow "special-get-raises" true)) 20000 R.prog (w.withFollow "special-get-raises" true) os).map (fun s => (looksF R.prog (boot_heap (w.withFollow "special-get-raises" true).params) s.abs, seenQ (PySem.W.view R.prog [162]) loose (importedModules R.prog.main.body) (fun s => xlAt (PySem.W.view R.prog [162]) [] s && recOk R.toRowW.records s) s.abs)) = some (true, openGood (PySem.W.view R.prog [162]) loose) := by
  intro os
  kernel_rfl
open HandSHeadRun PySem.W in
theorem head_o_true (w : World) : ∀ os : OsState, (endF (stepQ (denQ tabQ) R.prog (w.withFollow "special-get-raises" true)) 20000 R.prog (w.withFollow "special-get-raises" true) os).map ob = some (hk.val (w.withFollow "special-get-raises" true)) := by
  intro os
  kernel_rfl
theorem head_run_true (w : World) : HandSHeadRun.RunEq R (PySem.W.view R.prog [162]) hk ob 20000 loose (w.withFollow "special-get-raises" true) := fun os => map_two (head_a_true w os) (head_o_true w os)
theorem head_run2 (b : Bool) (w : World) : HandSHeadRun.RunEq R (PySem.W.view R.prog [162]) hk ob 20000 loose (w.withFollow "special-get-raises" b) := match b with
  | false => head_run_false w
  | true => head_run_true w
theorem head_run (w : World) : HandSHeadRun.RunEq R (PySem.W.view R.prog [162]) hk ob 20000 loose w := by
  have := head_run2 (w.params.followText "special-get-raises") w
  rwa [World.withFollow_self] at this
end Ns
/-! Own layer V: any data as values: their types, what a net is. -/
namespace Ns
open PySem PySem.Spec PyProof.Rows L2
def tyName : PyData → String
  | .none => "NoneType"
  | .bool _ => "bool"
  | .int _ => "int"
  | .str _ => "str"
  | .list _ => "list"
  | .tuple _ => "tuple"
  | .dict _ => "dict"
theorem tyX_of {K : PySem.W.Frag} {H : Hp} {v : V} {d : PyData} (h : Dp K H v d) : TyX K H v (.type (tyName d)) := by
  cases h with
  | non => exact .base .non
  | bl b => exact .base (.bl b)
  | int i => exact .base (.int i)
  | str x => exact .base (.str x)
  | lst h _ =>
    rcases h with (h | ⟨o, h⟩) | ⟨o, its, n, h, c, _⟩
    · exact .base (.lst h)
    · exact .base (.frz h)
    · exact .kList h c
  | tup h _ =>
    rcases h with (h | ⟨o, h⟩) | ⟨o, its, n, h, c, _⟩
    · exact .base (.tup h)
    · exact .fTuple h
    · exact .kTuple h c
/-- isinstance of data by the name of its type -/
def isiB (d : PyData) (T : String) : Bool := (kitB (tyName d) T).getD false
theorem kit_isi (d : PyData) (T : String) (h : T = "int" ∨ T = "bool" ∨ T = "str" ∨ T = "tuple" ∨ T = "list" ∨ T = "dict") : kitB (tyName d) T = some (isiB d T) := by
  have e : (kitB (tyName d) T).isSome = true := by
    rcases h with rfl | rfl | rfl | rfl | rfl | rfl <;> cases d <;> simp only [tyName] <;> decide +kernel
  obtain ⟨b, hb⟩ := Option.isSome_iff_exists.mp e
  unfold isiB
  rw [hb]
  rfl
theorem isi_tuple (d : PyData) : isiB d "tuple" = (match d with | .tuple _ => true | _ => false) := by
  cases d <;> simp only [isiB, tyName] <;> decide +kernel
theorem isi_int (d : PyData) : isiB d "int" = (match d with | .int _ => true | .bool _ => true | _ => false) := by
  cases d <;> simp only [isiB, tyName] <;> decide +kernel
theorem isi_bool (d : PyData) : isiB d "bool" = (match d with | .bool _ => true | _ => false) := by
  cases d <;> simp only [isiB, tyName] <;> decide +kernel
theorem isi_str (d : PyData) : isiB d "str" = (match d with | .str _ => true | _ => false) := by
  cases d <;> simp only [isiB, tyName] <;> decide +kernel
theorem DpAll.len {K : PySem.W.Frag} {H : Hp} : ∀ {vs : List V} {ds : List PyData}, DpAll K H vs ds → vs.length = ds.length
  | _, _, .nil => rfl
  | _, _, .cons _ t => congrArg Nat.succ (DpAll.len t)
theorem dpAt {K : PySem.W.Frag} {H : Hp} : ∀ {vs : List V} {ds : List PyData} {i : Nat} {v : V}, DpAll K H vs ds → vs[i]? = some v → ∃ d, ds[i]? = some d ∧ Dp K H v d
  | _, _, _, _, .nil, h => by simp at h
  | _, _, 0, _, .cons h _, e => by simp at e; subst e; exact ⟨_, rfl, h⟩
  | _, _, i + 1, _, .cons _ t, e => by
    obtain ⟨d, h1, h2⟩ := dpAt (i := i) t (by simpa using e)
    exact ⟨d, by simpa using h1, h2⟩
theorem dpAt2 {K : PySem.W.Frag} {H : Hp} : ∀ {vs : List V} {ds : List PyData} {i : Nat} {d : PyData}, DpAll K H vs ds → ds[i]? = some d → ∃ v, vs[i]? = some v ∧ Dp K H v d
  | _, _, _, _, .nil, h => by simp at h
  | _, _, 0, _, .cons h _, e => by simp at e; subst e; exact ⟨_, rfl, h⟩
  | _, _, i + 1, _, .cons _ t, e => by
    obtain ⟨v, h1, h2⟩ := dpAt2 (i := i) t (by simpa using e)
    exact ⟨v, by simpa using h1, h2⟩
theorem sqT_same {K : PySem.W.Frag} {H H' : Hp} {a : Addr} {xs : List V} (k : Same H H') (h : SqT K H a xs) : SqT K H' a xs := by
  rcases h with (h | ⟨o, h⟩) | h
  · exact .inl (.inl (k _ _ h))
  · exact .inl (.inr ⟨o, k _ _ h⟩)
  · exact .inr h
mutual
theorem Dp.same {K : PySem.W.Frag} {H H' : Hp} (k : Same H H') : ∀ (d : PyData) (v : V), Dp K H v d → Dp K H' v d
  | .none, _, .non => .non
  | .bool b, _, .bl _ => .bl b
  | .int i, _, .int _ => .int i
  | .str x, _, .str _ => .str x
  | .list ds, _, .lst h t => .lst (Same.seq k h) (DpAll.same k ds _ t)
  | .tuple ds, _, .tup h t => .tup (sqT_same k h) (DpAll.same k ds _ t)
theorem DpAll.same {K : PySem.W.Frag} {H H' : Hp} (k : Same H H') : ∀ (ds : List PyData) (vs : List V), DpAll K H vs ds → DpAll K H' vs ds
  | [], _, .nil => .nil
  | d :: ds, _, .cons h t => .cons (Dp.same k d _ h) (DpAll.same k ds _ t)
end
/-! ### what is a number, a pair, a net -/
def isNumD : PyData → Bool
  | .int _ => true
  | _ => false
def isPairD : PyData → Bool
  | .tuple [.int _, .int _] => true
  | _ => false
def okFrom (n : Int) : Int × Int → List PyData → Bool
  | _, [] => true
  | b, .tuple [.int x, .int y] :: r => (decide (0 ≤ x ∧ x < y ∧ y < n) && HT.lexLt [b.1, b.2] [x, y]) && okFrom n (x, y) r
  | _, _ :: _ => false
def isNetD : PyData → Bool
  | .tuple [.int n, .tuple ps] => decide (0 ≤ n ∧ n ≤ 40) && okFrom n (-1, -1) ps
  | _ => false
end Ns
/-! Own layer T: nets as texts, in plain Lean. -/
namespace Ns
open PySem PySem.Spec PyProof.Rows L2 TL
def pairD (p : Nat × Nat) : PyData := .tuple [.int p.1, .int p.2]
def netD (n : Nat) (ties : List (Nat × Nat)) : PyData := .tuple [.int n, .tuple (ties.map pairD)]
theorem lexLt2 (a b c d : Int) : HT.lexLt [a, b] [c, d] = decide (a < c ∨ a = c ∧ b < d) := by
  rw [HT.lexLt_cons, HT.lexLt_cons, HT.lexLt_nil_nil]
  by_cases h1 : a = c
  · rw [if_pos h1]
    by_cases h2 : b = d
    · rw [if_pos h2]
      exact (decide_eq_false (by omega)).symm
    · rw [if_neg h2]
      exact decide_eq_decide.mpr ⟨fun h => .inr ⟨h1, h⟩, fun h => by omega⟩
  · rw [if_neg h1]
    exact decide_eq_decide.mpr ⟨fun h => .inl h, fun h => by omega⟩
theorem okFrom_pairs (n : Nat) : ∀ (ps : List (Nat × Nat)) (b : Int × Int), okFrom n b (ps.map pairD) = true ↔
    (∀ p ∈ ps, p.1 < p.2 ∧ p.2 < n) ∧ (∀ p ∈ ps, b.1 < (p.1 : Int) ∨ b.1 = (p.1 : Int) ∧ b.2 < (p.2 : Int)) ∧ ps.Pairwise ltP
  | [], b => ⟨fun _ => ⟨fun _ h => absurd h List.not_mem_nil, fun _ h => absurd h List.not_mem_nil, List.Pairwise.nil⟩, fun _ => rfl⟩
  | p :: r, b => by
    show ((decide (0 ≤ (p.1 : Int) ∧ (p.1 : Int) < (p.2 : Int) ∧ (p.2 : Int) < n) && HT.lexLt [b.1, b.2] [(p.1 : Int), (p.2 : Int)]) && okFrom n ((p.1 : Int), (p.2 : Int)) (r.map pairD)) = true ↔ _
    rw [lexLt2, Bool.and_eq_true, Bool.and_eq_true, decide_eq_true_eq, decide_eq_true_eq, okFrom_pairs n r, List.pairwise_cons]
    constructor
    · rintro ⟨⟨h1, h2⟩, h3, h4, h5⟩
      refine ⟨fun q hq => ?_, fun q hq => ?_, fun q hq => ?_, h5⟩
      · rcases List.mem_cons.mp hq with rfl | hq
        · omega
        · exact h3 q hq
      · rcases List.mem_cons.mp hq with rfl | hq
        · exact h2
        · have h6 := h4 q hq
          dsimp only at h6
          omega
      · have h6 := h4 q hq
        dsimp only at h6
        show p.1 < q.1 ∨ p.1 = q.1 ∧ p.2 < q.2
        omega
    · rintro ⟨h3, h4, h5, h6⟩
      have h7 := h3 p (List.mem_cons_self ..)
      refine ⟨⟨by omega, h4 p (List.mem_cons_self ..)⟩, fun q hq => h3 q (List.mem_cons_of_mem _ hq), fun q hq => ?_, h6⟩
      have h8 : p.1 < q.1 ∨ p.1 = q.1 ∧ p.2 < q.2 := h5 q hq
      show (p.1 : Int) < q.1 ∨ (p.1 : Int) = q.1 ∧ (p.2 : Int) < q.2
      omega
theorem isNetD_net {n : Nat} {ps : List (Nat × Nat)} : isNetD (netD n ps) = true ↔ n ≤ 40 ∧ Good n ps := by
  show (decide (0 ≤ (n : Int) ∧ (n : Int) ≤ 40) && okFrom n (-1, -1) (ps.map pairD)) = true ↔ _
  rw [Bool.and_eq_true, decide_eq_true_eq, okFrom_pairs]
  constructor
  · rintro ⟨h1, h2, _, h3⟩
    exact ⟨by omega, h2, h3⟩
  · rintro ⟨h1, h2, h3⟩
    refine ⟨by omega, h2, fun p _ => ?_, h3⟩
    show (-1 : Int) < p.1 ∨ _
    omega
end Ns
/-! Own layer G: ranges as values, x in a tuple of data, enumerate of a tuple, sorted of a tuple of pairs, pairs compared. -/
namespace Ns
open PySem PySem.Spec PyProof.Rows L2
section
variable {X : Cx} {K : PySem.W.Frag} {tg e : Expr} {te : TE}
/-- sorted(t), t a list or tuple of pairs of points -/
def rSortedSP (K : PySem.W.Frag) : List V → Hp → VK → Prop := fun vs H Q => ∃ (a : Addr) (xs : List V) (ks : List (Nat × Nat)), vs = [V.ref a] ∧ (SqL K H a xs ∨ SqT K H a xs) ∧ Paired (Pr H) xs ks ∧
  ∀ (us : List V) (ys : List (Nat × Nat)) (p : Addr), ys.Perm ks → ys.Pairwise (fun a b => ¬ ltP b a) → Paired (Pr H) us ys → H p = none → Q (.ref p) (upd H p (.lst us))
theorem refs_of {H : Hp} : ∀ {xs : List V} {ks : List (Nat × Nat)} {us : List Value}, Paired (Pr H) xs ks → Vals xs us → ∀ u ∈ us, ∃ (t : Addr) (k : Nat × Nat), u = Value.ref t ∧ H t = some (.tup [pI k.1, pI k.2])
  | _, _, _, .nil, .nil, u, hu => by cases hu
  | _, _, _, .cons ⟨t, e, h⟩ r, .cons r1 r2, u, hu => by
    rcases List.mem_cons.mp hu with rfl | hu
    · subst e
      cases r1
      exact ⟨t, _, rfl, h⟩
    · exact refs_of r r2 u hu
theorem keys_of {H : Hp} : ∀ {xs : List V} {ks : List (Nat × Nat)} {us : List Value}, Paired (Pr H) xs ks → Vals xs us → (us.map adr).map (pk H) = ks
  | _, _, _, .nil, .nil => rfl
  | _, _, _, .cons ⟨t, e, h⟩ r, .cons r1 r2 => by
    subst e
    cases r1
    rw [List.map_cons, List.map_cons, keys_of r r2]
    congr 1
    exact pk_of h
theorem cr_sortedSP {X : Cx} {K : PySem.W.Frag} (hK : X.K = K) : CallR X (.builtin "sorted") (rSortedSP K) := by
  subst hK
  intro pins s σ H vs us Q I r h
  obtain ⟨a, xs, ks, rfl, hs, hpr0, q⟩ := h
  obtain ⟨u, rfl, rx⟩ := vals1 r
  cases rx
  obtain ⟨its, rv, T, o, n, hT, ho, hc, hd, hz⟩ : ∃ (its : List Value), Vals xs its ∧ ∃ (T : String) (o : Obj) (n : Nat), (T = "list" ∨ T = "tuple") ∧ s.heap.get? a = some o ∧ o.cls = .type T ∧ o.data = .seq its.toArray n ∧ xs.length ≤ sizeLine := by
    rcases hs with hs | hs
    · obtain ⟨its, rv, pl, hz⟩ := I.list hs
      obtain ⟨o, ho, hc, n, hd⟩ := pl.isList
      exact ⟨its, rv, _, o, n, .inl rfl, ho, hc, hd, hz⟩
    · obtain ⟨its, rv, ⟨o, ho, hc, n, hd⟩, hz⟩ := I.tuple hs
      exact ⟨its, rv, _, o, n, .inr rfl, ho, hc, hd, hz⟩
  have hil : its.length ≤ sizeLine := by rw [← rv.length]; exact hz
  refine Calls.call_function_entry PyProof.Rows.kind_sorted PyProof.Rows.plain_sorted PyProof.Rows.entry_sorted (PyProof.Rows.args_sorted1 _) ?_
  unfold Builtin.«sorted»
  refine wpAny_bind (m := checkCount "sorted" 1 1 _) (wpAny_pure ?_)
  refine wpAny_bind (wpAny_collect_seq a hT ho hc hd (hsz := by simpa using hil) fun h' hk => ?_)
  rw [show its.toArray.toList = its from rfl]
  have I1 : Inv X pins σ H { s with heap := h' } := I.kept (t' := s.toks) hk
  refine wpAny_bind (wpAny_newList ?_ hil)
  have hoL : (h'.push (seqObj "list" its.toArray 0)).get? h'.objs.size = some (seqObj "list" its.toArray 0) := Heap.get?_push_size _ rfl
  have hxs := refs_of hpr0 rv
  have hp : ∀ v ∈ its, Srt.IsPair (h'.push (seqObj "list" its.toArray 0)) v (pkI H (adr v)).1 (pkI H (adr v)).2 := fun v hv => by
    obtain ⟨t, k, rfl, ht⟩ := hxs v hv
    obtain ⟨_, its2, r2, o, ho, hc, n, hd⟩ := I1.hok _ _ ht
    obtain ⟨u1, u2, rfl, ⟨t1, rfl⟩, ⟨t2, rfl⟩⟩ := vals2 r2
    show Srt.IsPair _ _ (pkI H t).1 (pkI H t).2
    rw [pkI_of ht]
    exact ⟨t, o, t1, t2, n, rfl, Heap.get?_push_of_some _ ho, hc, hd⟩
  show wpAny _ _ _ _ _ { s with heap := h'.push (seqObj "list" its.toArray 0) }
  have hsort : ∀ out, SrtO.Srtd (fun v u => SrtO.lexB (pkI H (adr v)) (pkI H (adr u))) out → SrtO.Stb (fun v u => SrtO.lexB (pkI H (adr v)) (pkI H (adr u))) out its → True := fun _ _ _ => trivial
  refine wpAny_bind (wpAny_holding (wpAny_call_entry PyProof.Rows.slot_list_sort ⟨_, hoL, rfl⟩ PyProof.Rows.entry_list_sort
    (SrtO.list_sort_ord (s := { s with heap := h'.push (seqObj "list" its.toArray 0) }) (SrtO.swo_lex fun u => pkI H (adr u)) hoL hil (fun h2 => SrtO.pairs_sortableO (by omega) hp fun o e => ?_) fun out h1 h2 => ⟨_, rfl, ?_⟩) (PyProof.Rows.args_list_sort _)))
  · have e' : some o = some (seqObj "list" its.toArray 0) := e.symm.trans hoL
    cases e'
    intro c
    exact absurd (Value.type.inj c) (by decide)
  · obtain ⟨e', he'⟩ := PyProof.Rows.sortedHeap_at (vs := its) (out := out.toArray) hoL
    have hout : ∀ u ∈ out, ∃ (t : Addr) (k : Nat × Nat), u = Value.ref t ∧ H t = some (.tup [pI k.1, pI k.2]) := fun u hu => hxs u (h2.perm.mem_iff.mp hu)
    have ebs : (out.map adr).map Value.ref = out := by
      rw [List.map_map]
      refine (List.map_congr_left fun u hu => ?_).trans (List.map_id _)
      obtain ⟨t, k, rfl, _⟩ := hout u hu
      rfl
    have hpr : Paired (Pr H) ((out.map adr).map V.ref) ((out.map adr).map (pk H)) := pMapL _ _ _ fun t ht => by
      obtain ⟨u, hu, rfl⟩ := List.mem_map.mp ht
      obtain ⟨t, k, rfl, hk2⟩ := hout u hu
      exact ⟨t, rfl, by rw [show adr (.ref t) = t from rfl, pk_of hk2]; exact hk2⟩
    have hperm : ((out.map adr).map (pk H)).Perm ks := by
      rw [← keys_of hpr0 rv]
      exact (h2.perm.map adr).map (pk H)
    have hsrt : ((out.map adr).map (pk H)).Pairwise (fun a b => ¬ ltP b a) := by
      rw [List.pairwise_map, List.pairwise_map]
      refine List.Pairwise.imp_of_mem (fun {u v} hu hv e => ?_) h1
      obtain ⟨t, k, rfl, hk2⟩ := hout u hu
      obtain ⟨t', k', rfl, hk3⟩ := hout v hv
      have e : SrtO.lexB (pkI H t') (pkI H t) = false := e
      show ¬ ltP (pk H t') (pk H t)
      rw [pk_of hk2, pk_of hk3]
      rw [pkI_of hk2, pkI_of hk3] at e
      have e2 := SrtO.lexB_no.mp e
      unfold ltP
      intro c
      exact e2 (show ((k'.1 : Int) < k.1 ∨ (k'.1 : Int) = k.1 ∧ (k'.2 : Int) < k.2) by omega)
    have hlen : ((out.map adr).map V.ref).length ≤ sizeLine := by
      rw [List.length_map, List.length_map, h2.len]
      exact hil
    have hv : Vals ((out.map adr).map V.ref) out := by
      have := vals_refs (out.map adr)
      rwa [ebs] at this
    have new : ObjOk X.prog X.w (upd H h'.objs.size (.lst ((out.map adr).map V.ref))) (sortedHeap (h'.push (seqObj "list" its.toArray 0)) h'.objs.size its out.toArray) h'.objs.size (.lst ((out.map adr).map V.ref)) := ⟨hlen, out, e', hv, he'⟩
    refine wpAny_pure ⟨_, rfl, .ref h'.objs.size, upd H h'.objs.size (.lst ((out.map adr).map V.ref)), I1.laid (t' := s.toks) (fun b u e => ?_) (Nat.le_refl _) new, rfl, q _ _ _ hperm hsrt hpr (I1.hok.fresh (Nat.le_refl _))⟩
    have hb : b < h'.objs.size := Heap.lt_size e
    rw [PyProof.Rows.sortedHeap_old (Nat.ne_of_lt hb) (by rw [size_push']; exact Nat.lt_succ_of_lt hb)]
    exact Heap.get?_push_of_some _ e
end
end Ns
/-! Own layer U: pairs and nets as data that are compared. -/
namespace Ns
open PySem PySem.Spec PyProof.Rows L2
theorem dps_pairs {K : PySem.W.Frag} {H : Hp} : ∀ {vs : List V} {ps : List (Nat × Nat)}, Paired (Pr H) vs ps → DpAll K H vs (ps.map pairD)
  | _, _, .nil => .nil
  | _, _, .cons ⟨t, e, h⟩ r => by
    subst e
    exact .cons (.tup (SqT.of h) (.cons (.int _) (.cons (.int _) .nil))) (dps_pairs r)
theorem dp_net {K : PySem.W.Frag} {H : Hp} {v : V} {n : Nat} {ties : List (Nat × Nat)} (x : Net H v n ties) : Dp K H v (netD n ties) := by
  obtain ⟨t, u, rfl, h, t2, vs, rfl, h2, pr⟩ := x
  exact .tup (SqT.of h) (.cons (.int _) (.cons (.tup (SqT.of h2) (dps_pairs pr)) .nil))
end Ns
/-! Own layer Tn: data of tuples alone, none long, as objects of the heap; what stays where tables grow. -/
namespace Ns
open PySem PySem.Spec PyProof.Rows L2 LamX
mutual
inductive TN (N : Nat) (H : Hp) : V → PyData → Prop
  | non : TN N H .non .none
  | bl (b : Bool) : TN N H (.bl b) (.bool b)
  | int (i : Int) : TN N H (.int i) (.int i)
  | str (x : Str) : TN N H (.str x) (.str x)
  | tup {a : Addr} {xs : List V} {ds : List PyData} : H a = some (.tup xs) → xs.length ≤ N → TNA N H xs ds → TN N H (.ref a) (.tuple ds)
inductive TNA (N : Nat) (H : Hp) : List V → List PyData → Prop
  | nil : TNA N H [] []
  | cons {v : V} {d : PyData} {vs : List V} {ds : List PyData} : TN N H v d → TNA N H vs ds → TNA N H (v :: vs) (d :: ds)
end
mutual
theorem TN.dp {K : PySem.W.Frag} {N : Nat} {H : Hp} : ∀ {v : V} {d : PyData}, TN N H v d → Dp K H v d
  | _, _, .non => .non
  | _, _, .bl b => .bl b
  | _, _, .int i => .int i
  | _, _, .str x => .str x
  | _, _, .tup h _ t => .tup (SqT.of h) t.dp
theorem TNA.dp {K : PySem.W.Frag} {N : Nat} {H : Hp} : ∀ {vs : List V} {ds : List PyData}, TNA N H vs ds → DpAll K H vs ds
  | _, _, .nil => .nil
  | _, _, .cons h t => .cons h.dp t.dp
end
mutual
theorem TN.keep {N M : Nat} {H H' : Hp} (k : KeepT H H') (l : N ≤ M) : ∀ {v : V} {d : PyData}, TN N H v d → TN M H' v d
  | _, _, .non => .non
  | _, _, .bl b => .bl b
  | _, _, .int i => .int i
  | _, _, .str x => .str x
  | _, _, .tup h hl t => .tup (k _ _ h) (Nat.le_trans hl l) (t.keep k l)
theorem TNA.keep {N M : Nat} {H H' : Hp} (k : KeepT H H') (l : N ≤ M) : ∀ {vs : List V} {ds : List PyData}, TNA N H vs ds → TNA M H' vs ds
  | _, _, .nil => .nil
  | _, _, .cons h t => .cons (h.keep k l) (t.keep k l)
end
theorem TNA.app {N : Nat} {H : Hp} : ∀ {vs ws : List V} {ds es : List PyData}, TNA N H vs ds → TNA N H ws es → TNA N H (vs ++ ws) (ds ++ es)
  | _, _, _, _, .nil, h => h
  | _, _, _, _, .cons a t, h => .cons a (t.app h)
theorem TNA.len {N : Nat} {H : Hp} : ∀ {vs : List V} {ds : List PyData}, TNA N H vs ds → vs.length = ds.length
  | _, _, .nil => rfl
  | _, _, .cons _ t => congrArg Nat.succ t.len
theorem TNA.rev {N : Nat} {H : Hp} : ∀ {vs : List V} {ds : List PyData}, TNA N H vs ds → TNA N H vs.reverse ds.reverse
  | _, _, .nil => .nil
  | _, _, .cons h t => by
    rw [List.reverse_cons, List.reverse_cons]
    exact t.rev.app (.cons h .nil)
theorem TNA.take {N : Nat} {H : Hp} : ∀ {vs : List V} {ds : List PyData} (k : Nat), TNA N H vs ds → TNA N H (vs.take k) (ds.take k)
  | _, _, 0, _ => .nil
  | _, _, _ + 1, .nil => .nil
  | _, _, k + 1, .cons h t => .cons h (t.take k)
theorem TNA.drop {N : Nat} {H : Hp} : ∀ {vs : List V} {ds : List PyData} (k : Nat), TNA N H vs ds → TNA N H (vs.drop k) (ds.drop k)
  | _, _, 0, h => h
  | _, _, _ + 1, .nil => .nil
  | _, _, k + 1, .cons _ t => t.drop k
theorem TNA.at_ {N : Nat} {H : Hp} : ∀ {vs : List V} {ds : List PyData} {i : Nat} {v : V}, TNA N H vs ds → vs[i]? = some v → ∃ d, ds[i]? = some d ∧ TN N H v d
  | _, _, _, _, .nil, h => by simp at h
  | _, _, 0, _, .cons h _, e => by simp at e; subst e; exact ⟨_, rfl, h⟩
  | _, _, i + 1, _, .cons _ t, e => by
    obtain ⟨d, h1, h2⟩ := t.at_ (i := i) (by simpa using e)
    exact ⟨d, by simpa using h1, h2⟩
theorem tna_pts {N : Nat} {H : Hp} : ∀ xs : List Nat, TNA N H (xs.map pI) (xs.map fun x : Nat => PyData.int (x : Int))
  | [] => .nil
  | _ :: r => .cons (.int _) (tna_pts r)
/-! ### what stays where tables grow -/
/-! ### a def's body by itself -/
end Ns
/-! Own layer M: lists of lists: made by comprehensions, tables of truth values, stores into them. -/
namespace Ns
open PySem PySem.Spec PyProof.Rows L2
theorem gone {H H' : Hp} {p : Addr} (s : Same H H') (h : H' p = none) : H p = none := by
  cases q : H p with
  | none => rfl
  | some o =>
    have e := (s _ _ q).symm.trans h
    cases e
theorem cutV_take {xs : List V} {k : Nat} : cutV xs none (some (k : Int)) = xs.take k := by
  unfold cutV
  show ((xs.drop 0).take (HT.sIx xs.length xs.length (some (k : Int)) - 0)) = _
  rw [HT.sIx_nat, List.drop_zero, Nat.sub_zero]
  by_cases h : k ≤ xs.length
  · rw [Nat.min_eq_left h]
  · rw [Nat.min_eq_right (by omega), List.take_of_length_le (Nat.le_refl _), List.take_of_length_le (by omega)]
/-- lists with these contents, each by itself, all new since H1, none of them D -/
def Rws (H1 H : Hp) (D : Addr) (rows : List Addr) (cs : List (List V)) : Prop := rows.Nodup ∧ Paired (fun a c => H a = some (.lst c) ∧ a ≠ D ∧ H1 a = none) rows cs
theorem Rws.put {H1 H H4 : Hp} {D a : Addr} {rows : List Addr} {cs : List (List V)} {c : List V} {o : HO} (x : Rws H1 H D rows cs) (sm : Same H H4) (n1 : H1 a = none) (nD : a ≠ D) (n : H a = none) (e : H4 a = some (.lst c)) : Rws H1 (upd H4 D o) D (rows ++ [a]) (cs ++ [c]) := by
  obtain ⟨nd, pr⟩ := x
  have hn : a ∉ rows := fun h => by
    obtain ⟨c', _, h1, _⟩ := pMemL pr h
    rw [n] at h1
    cases h1
  refine ⟨?_, pApp ?_ (.cons ⟨by rw [upd_ne nD]; exact e, nD, n1⟩ .nil)⟩
  · rw [List.nodup_append]
    refine ⟨nd, by simp, fun u hu v hv e => hn ?_⟩
    rw [List.mem_singleton] at hv
    rw [← hv, ← e]
    exact hu
  · clear hn nd
    induction pr with
    | nil => exact .nil
    | cons h t ih => exact .cons ⟨by rw [upd_ne h.2.1]; exact sm _ _ h.1, h.2⟩ ih
section
variable {g : TG} {tt : TT} {te : TE} {vs : List Nat} {σ : L2.St} {H1 : Hp} {D : Addr} {Qd : Hp → Prop}
/-- [new list for i in range] -/
theorem comp_rows {lo : Int} {n : Nat} (hn : n < sizeLine) (c : Nat → List V) (hD : H1 D = none)
    (hs : ∀ (i : Nat) (H : Hp) (Yes : V → Hp → Prop) (No : Hp → Prop), i < n → Same H1 H → (∀ a H4, Same H H4 → H a = none → H4 a = some (.lst (c i)) → Yes (.ref a) H4) →
      g (.int (lo + i)) (wipe σ vs) H fun σ2 H2 => wipe σ2 vs = wipe σ vs ∧ tt σ2 H2 fun b H3 => if b = true then te σ2 H3 Yes else No H3)
    (hd : ∀ H rows, Same H1 H → H D = some (.lst (rows.map V.ref)) → Rws H1 H D rows ((List.range n).map c) → Qd H) :
    ∃ W : Nat → Nat → Hp → Prop, (∃ m, W 0 m (upd H1 D (.lst []))) ∧ ∀ i m H, W i m H →
      ((Itr lo n).stop i H ∧ Qd H) ∨ ((Itr lo n).go i H ∧ ∃ Nx : Hp → Prop, (∀ H', Nx H' → ∃ m', m' < m ∧ W (i + 1) m' H') ∧ ∀ x H', (Itr lo n).yld i H x H' → g x (wipe σ vs) H' fun σ2 H2 => wipe σ2 vs = wipe σ vs ∧ tt σ2 H2 fun b H3 =>
        if b = true then te σ2 H3 fun y H4 => ∃ acc, H4 D = some (.lst acc) ∧ acc.length < sizeLine ∧ Nx (upd H4 D (.lst (acc ++ [y]))) else Nx H3) := by
  refine lc_range (lo := lo) (n := n) (fun i H => Same H1 H ∧ ∃ rows, H D = some (.lst (rows.map V.ref)) ∧ Rws H1 H D rows ((List.range i).map c) ∧ rows.length = i) ⟨same_laid hD, [], upd_same, ⟨.nil, .nil⟩, rfl⟩ ?_ ?_
  · rintro i H hi ⟨sm, rows, hy, rw, hl⟩
    refine hs i H _ _ hi sm fun a H4 s4 na ea => ?_
    have nD : a ≠ D := fun e => by rw [e, hy] at na; cases na
    have n1 : H1 a = none := by
      cases q : H1 a with
      | none => rfl
      | some o => rw [sm _ _ q] at na; cases na
    refine ⟨rows.map V.ref, s4 _ _ hy, by rw [List.length_map]; omega, sPut (sm.trans s4) hD, rows ++ [a], ?_, ?_, by rw [List.length_append, hl]; rfl⟩
    · rw [upd_same, List.map_append]
      rfl
    · rw [List.range_succ, List.map_append]
      exact rw.put s4 n1 nD na ea
  · rintro H ⟨sm, rows, hy, rw, hl⟩
    exact hd H rows sm hy rw
/-- [new list for one in list] -/
theorem comp_rowsL {α : Type} {K : PySem.W.Frag} {a : Addr} {us : List V} {ds : List α} (c : α → List V) (R : Hp → V → α → Prop) (hD : H1 D = none)
    (hl : H1 a = some (.lst us)) (hn : us.length < sizeLine) (hp : ∀ H, Same H1 H → Paired (R H) us ds)
    (hs : ∀ (d : α) (x : V) (H : Hp) (Yes : V → Hp → Prop) (No : Hp → Prop), d ∈ ds → R H x d → Same H1 H → (∀ a H4, Same H H4 → H a = none → H4 a = some (.lst (c d)) → Yes (.ref a) H4) →
      g x (wipe σ vs) H fun σ2 H2 => wipe σ2 vs = wipe σ vs ∧ tt σ2 H2 fun b H3 => if b = true then te σ2 H3 Yes else No H3)
    (hd : ∀ H rows, Same H1 H → H D = some (.lst (rows.map V.ref)) → Rws H1 H D rows (ds.map c) → Qd H) :
    ∃ W : Nat → Nat → Hp → Prop, (∃ m, W 0 m (upd H1 D (.lst []))) ∧ ∀ i m H, W i m H →
      ((Itl K a).stop i H ∧ Qd H) ∨ ((Itl K a).go i H ∧ ∃ Nx : Hp → Prop, (∀ H', Nx H' → ∃ m', m' < m ∧ W (i + 1) m' H') ∧ ∀ x H', (Itl K a).yld i H x H' → g x (wipe σ vs) H' fun σ2 H2 => wipe σ2 vs = wipe σ vs ∧ tt σ2 H2 fun b H3 =>
        if b = true then te σ2 H3 fun y H4 => ∃ acc, H4 D = some (.lst acc) ∧ acc.length < sizeLine ∧ Nx (upd H4 D (.lst (acc ++ [y]))) else Nx H3) := by
  have hlen := (hp H1 (Same.refl H1)).length
  refine lc_list (K := K) (a := a) (xs := us) (fun i H => Same H1 H ∧ ∃ rows, H D = some (.lst (rows.map V.ref)) ∧ Rws H1 H D rows ((ds.take i).map c) ∧ rows.length = i) ⟨same_laid hD, [], upd_same, ⟨.nil, .nil⟩, rfl⟩ (fun i H _ p => SqL.of (p.1 _ _ hl)) ?_ ?_
  · rintro i x H hi ⟨sm, rows, hy, rw, hll⟩
    obtain ⟨d, hat, hrs⟩ := pAtL (hp H sm) hi
    have hi2 := (List.getElem?_eq_some_iff.mp hi).1
    refine hs d x H _ _ (List.mem_of_getElem? hat) hrs sm fun a H4 s4 na ea => ?_
    have nD : a ≠ D := fun e => by rw [e, hy] at na; cases na
    have n1 : H1 a = none := by
      cases q : H1 a with
      | none => rfl
      | some o => rw [sm _ _ q] at na; cases na
    refine ⟨rows.map V.ref, s4 _ _ hy, by rw [List.length_map]; omega, sPut (sm.trans s4) hD, rows ++ [a], ?_, ?_, by rw [List.length_append, hll]; rfl⟩
    · rw [upd_same, List.map_append]
      rfl
    · rw [List.take_add_one, hat, List.map_append]
      exact rw.put s4 n1 nD na ea
  · rintro H ⟨sm, rows, hy, rw, hll⟩
    rw [hlen, List.take_of_length_le (Nat.le_refl _)] at rw
    exact hd H rows sm hy rw
end
/-! ### tables of truth values -/
abbrev Tm := Nat → Nat → Bool
def rowV (n : Nat) (f : Nat → Bool) : List V := (List.range n).map fun j => V.bl (f j)
theorem rowV_len (n : Nat) (f : Nat → Bool) : (rowV n f).length = n := by simp [rowV]
theorem rowV_at {n : Nat} {f : Nat → Bool} {j : Nat} (h : j < n) : (rowV n f)[j]? = some (.bl (f j)) := by simp [rowV, h]
theorem rowV_set {n : Nat} {f : Nat → Bool} {j : Nat} {b : Bool} : (rowV n f).set j (.bl b) = rowV n fun k => if k = j then b else f k := by
  apply List.ext_getElem?
  intro k
  rw [List.getElem?_set, rowV_len]
  by_cases hk : k < n
  · rw [rowV_at hk, rowV_at hk]
    by_cases e : k = j
    · subst e
      rw [if_pos rfl, if_pos hk, if_pos rfl]
    · rw [if_neg (fun h => e h.symm), if_neg e]
  · have h1 : (rowV n f)[k]? = none := List.getElem?_eq_none_iff.mpr (by rw [rowV_len]; omega)
    have h2 : (rowV n fun k => if k = j then b else f k)[k]? = none := List.getElem?_eq_none_iff.mpr (by rw [rowV_len]; omega)
    rw [h1, h2]
    by_cases e : j = k
    · rw [if_pos e, if_neg (by omega)]
    · rw [if_neg e]
theorem rowV_congr {n : Nat} {f f' : Nat → Bool} (h : ∀ j, j < n → f j = f' j) : rowV n f = rowV n f' := by
  unfold rowV
  refine List.map_congr_left fun j hj => ?_
  rw [h j (List.mem_range.mp hj)]
structure Mat (H : Hp) (m : Addr) (rows : List Addr) (n : Nat) (T : Tm) : Prop where
  top : H m = some (.lst (rows.map V.ref))
  len : rows.length = n
  nd : rows.Nodup
  at_ : ∀ i a, rows[i]? = some a → H a = some (.lst (rowV n (T i)))
theorem Mat.same {H H' : Hp} {m : Addr} {rows : List Addr} {n : Nat} {T : Tm} (x : Mat H m rows n T) (k : Same H H') : Mat H' m rows n T := ⟨k _ _ x.top, x.len, x.nd, fun i a h => k _ _ (x.at_ i a h)⟩
theorem Mat.congr {H : Hp} {m : Addr} {rows : List Addr} {n : Nat} {T T' : Tm} (x : Mat H m rows n T) (h : ∀ i j, i < n → j < n → T i j = T' i j) : Mat H m rows n T' := by
  refine ⟨x.top, x.len, x.nd, fun i a e => ?_⟩
  have hi : i < n := by rw [← x.len]; exact (List.getElem?_eq_some_iff.mp e).1
  rw [x.at_ i a e, rowV_congr fun j hj => h i j hi hj]
theorem Mat.row {H : Hp} {m : Addr} {rows : List Addr} {n : Nat} {T : Tm} (x : Mat H m rows n T) {i : Nat} (h : i < n) : ∃ a, rows[i]? = some a ∧ H a = some (.lst (rowV n (T i))) := by
  have hi : i < rows.length := by rw [x.len]; exact h
  exact ⟨rows[i], by simp [hi], x.at_ i _ (by simp [hi])⟩
theorem Mat.notin {H : Hp} {m : Addr} {rows : List Addr} {n : Nat} {T : Tm} (x : Mat H m rows n T) : m ∉ rows := fun h => by
  obtain ⟨i, hi, e⟩ := List.mem_iff_getElem.mp h
  have h1 := x.at_ i m (by rw [← e]; simp [hi])
  rw [x.top] at h1
  have h2 : rows.map V.ref = rowV n (T i) := by
    injection h1 with h1
    injection h1
  have h3 := congrArg (fun l => l[i]?) h2
  have h4 : (rows.map V.ref)[i]? = some (.ref rows[i]) := by rw [List.getElem?_map]; simp [hi]
  have h5 : (rowV n (T i))[i]? = some (.bl (T i i)) := rowV_at (by rw [← x.len]; exact hi)
  have h6 := h4.symm.trans (h3.trans h5)
  cases h6
/-- all stands but these lists -/
def Out (rows : List Addr) (H H' : Hp) : Prop := ∀ a o, H a = some o → a ∉ rows → H' a = some o
theorem Out.refl (rows : List Addr) (H : Hp) : Out rows H H := fun _ _ h _ => h
theorem Out.trans {rows : List Addr} {H H1 H2 : Hp} (x : Out rows H H1) (y : Out rows H1 H2) : Out rows H H2 := fun a o h n => y a o (x a o h n) n
theorem Out.of {rows : List Addr} {H H' : Hp} (x : Same H H') : Out rows H H' := fun a o h _ => x a o h
/-- the table's rows are lists, so tuples stay -/
theorem Out.kt {m : Addr} {rows : List Addr} {n : Nat} {T : Tm} {H H' : Hp} (x : Out rows H H') (M : Mat H m rows n T) : KeepT H H' := fun a xs h => x a _ h fun hm => by
  obtain ⟨i, hi, e⟩ := List.mem_iff_getElem.mp hm
  have h1 := M.at_ i a (by rw [← e]; simp [hi])
  rw [h] at h1
  cases h1
theorem Out.same {rows : List Addr} {H0 H H' : Hp} (s : Same H0 H) (hn : ∀ a ∈ rows, H0 a = none) (x : Out rows H H') : Same H0 H' := fun a o h => x a o (s a o h) fun hm => by
  rw [hn a hm] at h
  cases h
def setT (T : Tm) (x y : Nat) (b : Bool) : Tm := fun i j => if i = x ∧ j = y then b else T i j
theorem Mat.set {H : Hp} {m a : Addr} {rows : List Addr} {n : Nat} {T : Tm} {x y : Nat} {b : Bool} (M : Mat H m rows n T) (ha : rows[x]? = some a) : Mat (upd H a (.lst ((rowV n (T x)).set y (.bl b)))) m rows n (setT T x y b) ∧ Out rows H (upd H a (.lst ((rowV n (T x)).set y (.bl b)))) := by
  have hm : a ∈ rows := List.mem_of_getElem? ha
  refine ⟨⟨?_, M.len, M.nd, fun i a' e => ?_⟩, fun u o h hu => ?_⟩
  · rw [upd_ne (fun e => M.notin (by rw [e]; exact hm))]
    exact M.top
  · by_cases h : a' = a
    · subst h
      have hi := (List.getElem?_eq_some_iff.mp e).1
      have e2 : i = x := (List.getElem?_inj hi M.nd).mp (e.trans ha.symm)
      subst e2
      rw [upd_same, rowV_set]
      congr 2
      refine rowV_congr fun j _ => ?_
      unfold setT
      by_cases hj : j = y
      · rw [if_pos hj, if_pos ⟨rfl, hj⟩]
      · rw [if_neg hj, if_neg (fun h => hj h.2)]
    · rw [upd_ne h, M.at_ i a' e]
      congr 2
      refine rowV_congr fun j _ => ?_
      unfold setT
      rw [if_neg]
      rintro ⟨rfl, _⟩
      exact h (Option.some.inj (e.symm.trans ha))
  · rw [upd_ne (fun e => hu (by rw [e]; exact hm))]
    exact h
theorem ixN_of {n j : Nat} (h : j < n) : ixN n (j : Int) = some j := by
  unfold ixN
  rw [if_pos (by omega), if_pos (by omega)]
  rfl
section
variable {K : PySem.W.Frag} {H : Hp} {m : Addr} {rows : List Addr} {n : Nat} {T : Tm} {σ : L2.St} {Q : VK}
/-- m[x][y], all three by names -/
theorem rdM {i j k x y : Nat} (M : Mat H m rows n T) (hm : σ[i]? = some (some (.ref m))) (hx : σ[j]? = some (some (.int (x : Int)))) (hy : σ[k]? = some (some (.int (y : Int)))) (lx : x < n) (ly : y < n) (q : Q (.bl (T x y)) H) :
    tOp (rIxL K) (tOp (rIxL K) (tVar i) (tVar j)) (tVar k) σ H Q := by
  obtain ⟨a, ha, hr⟩ := M.row lx
  refine ⟨_, hm, _, hx, _, _, _, .ref a, rfl, rfl, SqL.of M.top, atI_nat (j := x) ?_, _, hy, _, _, _, _, rfl, rfl, SqL.of hr, atI_nat (j := y) (rowV_at ly), q⟩
  rw [List.getElem?_map, ha]
  rfl
/-- m[x][y] = b -/
theorem wrM {i j k x y : Nat} {b : Bool} {Q : L2.St → Hp → Prop} (M : Mat H m rows n T) (hm : σ[i]? = some (some (.ref m))) (hx : σ[j]? = some (some (.int (x : Int)))) (hy : σ[k]? = some (some (.int (y : Int)))) (lx : x < n) (ly : y < n)
    (q : ∀ H', Mat H' m rows n (setT T x y b) → Out rows H H' → (∀ a, H a = none → H' a = none) → Q σ H') : gSub (tOp (rIxL K) (tVar i) (tVar j)) (tVar k) rSetL (.bl b) σ H Q := by
  obtain ⟨a, ha, hr⟩ := M.row lx
  obtain ⟨M2, o2⟩ := M.set (y := y) (b := b) ha
  refine ⟨_, hm, _, hx, _, _, _, .ref a, rfl, rfl, SqL.of M.top, atI_nat (j := x) ?_, _, hy, a, _, _, y, rfl, rfl, hr, ?_, q _ M2 o2 fun u hu => ?_⟩
  · rw [List.getElem?_map, ha]
    rfl
  · rw [rowV_len]
    exact ixN_of ly
  · rw [upd_ne (fun e => by rw [e, hr] at hu; cases hu)]
    exact hu
end
end Ns
/-! Own layer, plain: what stands where no end is (threshold), no top (nested), no parting (cograph). -/
namespace Ns
open PySem PySem.Spec PyProof.Rows L2
structure SyT (T : Nat → Nat → Bool) : Prop where
  sy : ∀ x y, T x y = T y x
  ir : ∀ x, T x x = false
theorem len_le_of_sub : ∀ {es ns : List Nat}, es.Nodup → (∀ x ∈ es, x ∈ ns) → es.length ≤ ns.length
  | [], _, _, _ => Nat.zero_le _
  | e :: r, ns, nd, s => by
    have he := s e (List.mem_cons_self ..)
    have h := len_le_of_sub (es := r) (ns := ns.erase e) (List.nodup_cons.mp nd).2 fun x hx => by
      rcases List.mem_cons.mp ((List.perm_cons_erase he).mem_iff.mp (s x (List.mem_cons_of_mem _ hx))) with e2 | h2
      · rw [e2] at hx
        exact absurd hx (List.nodup_cons.mp nd).1
      · exact h2
    rw [List.length_erase_of_mem he] at h
    have := List.length_pos_of_mem he
    rw [List.length_cons]
    omega
/-! ### four in a row -/
inductive RchN (T : Nat → Nat → Bool) (R : List Nat) (u : Nat) : Nat → Prop
  | self : RchN T R u u
  | step {x y : Nat} : RchN T R u x → y ∈ R → T x y = true → RchN T R u y
theorem RchN.mem {T : Nat → Nat → Bool} {R : List Nat} {u x : Nat} (hu : u ∈ R) (h : RchN T R u x) : x ∈ R := by
  cases h with
  | self => exact hu
  | step _ h _ => exact h
theorem RchN.trans {T : Nat → Nat → Bool} {R : List Nat} {u x y : Nat} (h : RchN T R u x) (g : RchN T R x y) : RchN T R u y := by
  induction g with
  | self => exact h
  | step _ h1 h2 ih => exact .step ih h1 h2
theorem RchN.symm {T : Nat → Nat → Bool} (S : SyT T) {R : List Nat} {u x : Nat} (hu : u ∈ R) (h : RchN T R u x) : RchN T R x u := by
  induction h with
  | self => exact .self
  | step h1 h2 h3 ih => exact RchN.trans (.step .self (h1.mem hu) (by rw [S.sy]; exact h3)) ih
end Ns
/-! Own layer, plain: what is not tied, turned so that it goes through, where no ring of four or five is without a chord and no three points hang together off one another. -/
namespace Ns
open PySem PySem.Spec PyProof.Rows L2
/-- x hangs together with y by points of V off z -/
inductive Off (T : Nat → Nat → Bool) (V : Nat → Prop) (z x : Nat) : Nat → Prop
  | refl : V x → x ≠ z → T x z = false → Off T V z x x
  | step {y w : Nat} : Off T V z x y → T y w = true → V w → w ≠ z → T w z = false → Off T V z x w
section
variable {T : Nat → Nat → Bool} {V V' : Nat → Prop} {z x y w : Nat}
theorem Off.last (h : Off T V z x y) : V y ∧ y ≠ z ∧ T y z = false := by
  cases h with
  | refl a b c => exact ⟨a, b, c⟩
  | step _ _ a b c => exact ⟨a, b, c⟩
theorem Off.first (h : Off T V z x y) : V x ∧ x ≠ z ∧ T x z = false := by
  induction h with
  | refl a b c => exact ⟨a, b, c⟩
  | step _ _ _ _ _ ih => exact ih
theorem Off.trans (h : Off T V z x y) (g : Off T V z y w) : Off T V z x w := by
  induction g with
  | refl _ _ _ => exact h
  | step _ a b c d ih => exact .step ih a b c d
theorem Off.symm (S : SyT T) (h : Off T V z x y) : Off T V z y x := by
  induction h with
  | refl a b c => exact .refl a b c
  | step g a b c d ih =>
    obtain ⟨p, q, r⟩ := g.last
    exact Off.trans (.step (.refl b c d) (by rw [S.sy]; exact a) p q r) ih
theorem Off.mono (k : ∀ u, V u → V' u) (h : Off T V z x y) : Off T V' z x y := by
  induction h with
  | refl a b c => exact .refl (k _ a) b c
  | step _ a b c d ih => exact .step ih a (k _ b) c d
end
/-- no three points each two of which hang together off the third one -/
def NoAT (T : Nat → Nat → Bool) (V : Nat → Prop) : Prop := ∀ a b c, Off T V c a b → Off T V b a c → Off T V a b c → False
def NoR4 (T : Nat → Nat → Bool) (V : Nat → Prop) : Prop := ∀ a b c d, V a → V b → V c → V d → a ≠ c → b ≠ d → T a b = true → T b c = true → T c d = true → T d a = true → T a c = false → T b d = false → False
def NoR5 (T : Nat → Nat → Bool) (V : Nat → Prop) : Prop := ∀ a b c d e, V a → V b → V c → V d → V e → T a b = true → T b c = true → T c d = true → T d e = true → T e a = true → T a c = false → T a d = false → T b d = false → T b e = false → T c e = false → False
/-- an order of what is not tied -/
structure Ord (T : Nat → Nat → Bool) (V : Nat → Prop) (lt : Nat → Nat → Prop) : Prop where
  of : ∀ {a b}, lt a b → V a ∧ V b ∧ a ≠ b ∧ T a b = false
  tot : ∀ {a b}, V a → V b → a ≠ b → T a b = false → lt a b ∨ lt b a
  asy : ∀ {a b}, lt a b → ¬ lt b a
  tr : ∀ {a b c}, lt a b → lt b c → lt a c
theorem Ord.rev {T : Nat → Nat → Bool} {V : Nat → Prop} {lt : Nat → Nat → Prop} (S : SyT T) (h : Ord T V lt) : Ord T V fun a b => lt b a :=
  ⟨fun {a b} k => by obtain ⟨p, q, r, s⟩ := h.of k; exact ⟨q, p, Ne.symm r, by rw [S.sy]; exact s⟩, fun {a b} p q r s => (h.tot p q r s).symm, fun k => h.asy k, fun k g => h.tr g k⟩
theorem NoAT.sub {T : Nat → Nat → Bool} {V V' : Nat → Prop} (k : ∀ u, V' u → V u) (h : NoAT T V) : NoAT T V' := fun a b c p q r => h a b c (p.mono k) (q.mono k) (r.mono k)
theorem NoR4.sub {T : Nat → Nat → Bool} {V V' : Nat → Prop} (k : ∀ u, V' u → V u) (h : NoR4 T V) : NoR4 T V' := fun a b c d p q r s => h a b c d (k _ p) (k _ q) (k _ r) (k _ s)
theorem NoR5.sub {T : Nat → Nat → Bool} {V V' : Nat → Prop} (k : ∀ u, V' u → V u) (h : NoR5 T V) : NoR5 T V' := fun a b c d e p q r s t => h a b c d e (k _ p) (k _ q) (k _ r) (k _ s) (k _ t)
open Classical in
theorem len_lt {l : List Nat} {p : Nat → Prop} {x : Nat} (hx : x ∈ l) (nx : ¬ p x) : (l.filter fun c => decide (p c)).length < l.length := by
  rw [← List.countP_eq_length_filter]
  refine Nat.lt_of_le_of_ne List.countP_le_length fun e => ?_
  have := (List.countP_eq_length.mp e) x hx
  exact nx (of_decide_eq_true this)
/-- something greatest -/
theorem greatest_of {α : Type} (p : α → Prop) (f : α → Nat) (n : Nat) (h : ∃ a, p a) (b : ∀ a, p a → f a ≤ n) : ∃ a, p a ∧ ∀ c, p c → f c ≤ f a := by
  apply Classical.byContradiction
  intro k
  have k2 : ∀ a, p a → ∃ c, p c ∧ f a < f c := fun a ha => Classical.byContradiction fun q => k ⟨a, ha, fun c hc => Classical.byContradiction fun r => q ⟨c, hc, by omega⟩⟩
  have k3 : ∀ m, ∃ a, p a ∧ m ≤ f a := fun m => by
    induction m with
    | zero => obtain ⟨a, ha⟩ := h; exact ⟨a, ha, Nat.zero_le _⟩
    | succ m ih =>
      obtain ⟨a, ha, h1⟩ := ih
      obtain ⟨c, hc, h2⟩ := k2 a ha
      exact ⟨c, hc, by omega⟩
  obtain ⟨a, ha, h1⟩ := k3 (n + 1)
  have := b a ha
  omega
section
variable {T : Nat → Nat → Bool} (S : SyT T)
include S
open Classical in
/-- a point that can be poked -/
theorem poke : ∀ (n : Nat) (l : List Nat), l.length ≤ n → l ≠ [] → NoAT T (· ∈ l) → ∃ v ∈ l, ∀ y z, Off T (· ∈ l) z v y → Off T (· ∈ l) y v z → False
  | 0, l, h, ne, _ => absurd (List.length_eq_zero_iff.mp (Nat.le_zero.mp h)) ne
  | n + 1, l, h, ne, at_ => by
    by_cases full : ∃ p : Nat × Nat, p.1 ∈ l ∧ p.2 ∈ l ∧ p.2 ≠ p.1 ∧ T p.2 p.1 = false
    · obtain ⟨⟨a, u⟩, ⟨ha, hu, ne_au, au⟩, mx⟩ := greatest_of (fun p : Nat × Nat => p.1 ∈ l ∧ p.2 ∈ l ∧ p.2 ≠ p.1 ∧ T p.2 p.1 = false) (fun p => (l.filter fun c => decide (Off T (· ∈ l) p.1 p.2 c)).length) l.length full (fun a _ => List.length_filter_le _ _)
      have uC : Off T (· ∈ l) a u u := .refl hu ne_au au
      -- outside the component, not tied to it
      obtain ⟨A, hA⟩ : ∃ A : Nat → Prop, A = fun v => v ∈ l ∧ ¬ Off T (· ∈ l) a u v ∧ ∀ c, Off T (· ∈ l) a u c → T v c = false := ⟨_, rfl⟩
      have Aof : ∀ {v}, A v → v ∈ l ∧ ¬ Off T (· ∈ l) a u v ∧ ∀ c, Off T (· ∈ l) a u c → T v c = false := fun {v} h => by rw [hA] at h; exact h
      have toA : ∀ {v}, v ∈ l ∧ ¬ Off T (· ∈ l) a u v ∧ (∀ c, Off T (· ∈ l) a u c → T v c = false) → A v := fun {v} h => by rw [hA]; exact h
      clear hA
      have aA : A a := toA ⟨ha, fun k => k.last.2.1 rfl, fun c k => by rw [S.sy]; exact k.last.2.2⟩
      have part : ∀ s, s ∈ l → ¬ Off T (· ∈ l) a u s → ¬ A s → ∃ c, Off T (· ∈ l) a u c ∧ T s c = true := fun s hs nc na => Classical.byContradiction fun k => na (toA ⟨hs, nc, fun c hc => by
        cases e : T s c
        · rfl
        · exact absurd ⟨c, hc, e⟩ k⟩)
      have Sall : ∀ v s c, A v → s ∈ l → ¬ Off T (· ∈ l) a u s → Off T (· ∈ l) a u c → T s c = true → s ≠ v → T s v = true := fun v s c hv hs nc hc sc nv => by
        have hv := Aof hv
        cases e : T s v
        · exfalso
          have inn : ∀ w, Off T (· ∈ l) a u w → Off T (· ∈ l) v u w := fun w hw => by
            have offv : ∀ w, Off T (· ∈ l) a u w → w ≠ v ∧ T w v = false := fun w hw => ⟨fun e => hv.2.1 (e ▸ hw), by rw [S.sy]; exact hv.2.2 w hw⟩
            induction hw with
            | refl p q r => exact .refl p (offv _ (.refl p q r)).1 (offv _ (.refl p q r)).2
            | step g p q r t ih => exact .step ih p q (offv _ (.step g p q r t)).1 (offv _ (.step g p q r t)).2
          have sIn : Off T (· ∈ l) v u s := .step (inn c hc) (by rw [S.sy]; exact sc) hs nv e
          have := mx (v, u) ⟨hv.1, hu, (fun e => by have e : u = v := e; subst e; exact hv.2.1 uC), by rw [S.sy]; exact hv.2.2 u uC⟩
          have lt : (l.filter fun c => decide (Off T (· ∈ l) a u c)).length < (l.filter fun c => decide (Off T (· ∈ l) v u c)).length := by
            have e1 : (l.filter fun c => decide (Off T (· ∈ l) a u c)) = (l.filter fun c => decide (Off T (· ∈ l) v u c)).filter fun c => decide (Off T (· ∈ l) a u c) := by
              rw [List.filter_filter]
              refine List.filter_congr fun c _ => ?_
              by_cases k : Off T (· ∈ l) a u c
              · rw [decide_eq_true k, decide_eq_true (inn c k)]; rfl
              · rw [decide_eq_false k]; rfl
            rw [e1]
            exact len_lt (List.mem_filter.mpr ⟨hs, decide_eq_true sIn⟩) nc
          exact absurd this (Nat.not_le_of_lt lt)
        · rfl
      have sub : ∀ w, w ∈ l.filter (fun c => decide (A c)) ↔ A w := fun w => by
        rw [List.mem_filter, decide_eq_true_eq]
        exact ⟨fun k => k.2, fun k => ⟨(Aof k).1, k⟩⟩
      have lt := len_lt (p := A) hu fun k => (Aof k).2.1 uC
      obtain ⟨v, hv, hno⟩ := poke n (l.filter fun c => decide (A c)) (by omega) (List.ne_nil_of_mem ((sub a).mpr aA)) (at_.sub fun w hw => (List.mem_filter.mp hw).1)
      have hv := (sub v).mp hv
      -- a way off a point of A stays in A
      have stay : ∀ z y, A z → Off T (· ∈ l) z v y → Off T (· ∈ l.filter fun c => decide (A c)) z v y := fun z y hz hy => by
        induction hy with
        | refl p q r => exact .refl ((sub v).mpr hv) q r
        | step g p q r t ih =>
          rename_i y w
          refine .step ih p ((sub w).mpr ?_) r t
          have yA := (sub y).mp ih.last.1
          apply Classical.byContradiction
          intro nA
          by_cases wC : Off T (· ∈ l) a u w
          · rw [(Aof yA).2.2 w wC] at p
            cases p
          · obtain ⟨c, hc, sc⟩ := part w q wC nA
            have := Sall z w c hz q wC hc sc r
            rw [t] at this
            cases this
      have CorA : ∀ y, Off T (· ∈ l) v y y → y ∈ l → Off T (· ∈ l) a u y ∨ A y := fun y k hy => by
        apply Classical.byContradiction
        intro q
        have q1 : ¬ Off T (· ∈ l) a u y := fun k => q (.inl k)
        have q2 : ¬ A y := fun k => q (.inr k)
        obtain ⟨c, hc, sc⟩ := part y hy q1 q2
        have := Sall v y c hv hy q1 hc sc k.last.2.1
        rw [k.last.2.2] at this
        cases this
      refine ⟨v, (Aof hv).1, fun y z h1 h2 => ?_⟩
      obtain ⟨y1, y2, y3⟩ := h1.last
      obtain ⟨z1, z2, z3⟩ := h2.last
      obtain ⟨_, v1, v2⟩ := h1.first
      obtain ⟨_, v3, v4⟩ := h2.first
      have yv : Off T (· ∈ l) v y y := .refl y1 (Ne.symm v3) (by rw [S.sy]; exact v4)
      have zv : Off T (· ∈ l) v z z := .refl z1 (Ne.symm v1) (by rw [S.sy]; exact v2)
      rcases CorA y yv y1 with yC | yA <;> rcases CorA z zv z1 with zC | zA
      · have inn : ∀ w, Off T (· ∈ l) a u w → Off T (· ∈ l) v u w := fun w hw => by
          have offv : ∀ w, Off T (· ∈ l) a u w → w ≠ v ∧ T w v = false := fun w hw => ⟨fun e => (Aof hv).2.1 (e ▸ hw), by rw [S.sy]; exact (Aof hv).2.2 w hw⟩
          induction hw with
          | refl p q r => exact .refl p (offv _ (.refl p q r)).1 (offv _ (.refl p q r)).2
          | step g p q r t ih => exact .step ih p q (offv _ (.step g p q r t)).1 (offv _ (.step g p q r t)).2
        exact at_ v y z h1 h2 (((inn y yC).symm S).trans (inn z zC))
      · have := (sub y).mp (stay z y zA h1).last.1
        exact (Aof this).2.1 yC
      · have := (sub z).mp (stay y z yA h2).last.1
        exact (Aof this).2.1 zC
      · exact hno y z (stay z y zA h1) (stay y z yA h2)
    · obtain ⟨v, hv⟩ := List.exists_mem_of_ne_nil l ne
      exact ⟨v, hv, fun y z h1 h2 => full ⟨(z, v), h2.last.1, hv, h1.first.2.1, h1.first.2.2⟩⟩
end
end Ns
/-! Own layer, plain: the order of what is not tied, by what hangs together with a company off each point. -/
namespace Ns
open PySem PySem.Spec PyProof.Rows L2
section
variable {T : Nat → Nat → Bool} (S : SyT T) {V : Nat → Prop} {X : List Nat}
/-- what hangs together with points of X off c -/
def UX (T : Nat → Nat → Bool) (V : Nat → Prop) (X : List Nat) (c u : Nat) : Prop := ∃ x ∈ X, Off T V c x u
theorem UX.last {c u : Nat} (h : UX T V X c u) : V u ∧ u ≠ c ∧ T u c = false := by
  obtain ⟨x, _, h⟩ := h
  exact h.last
theorem UX.step {c u w : Nat} (h : UX T V X c u) (a : T u w = true) (b : V w) (n : w ≠ c) (t : T w c = false) : UX T V X c w := by
  obtain ⟨x, hx, h⟩ := h
  exact ⟨x, hx, .step h a b n t⟩
structure CliqueX (T : Nat → Nat → Bool) (V : Nat → Prop) (X : List Nat) : Prop where
  inV : ∀ x ∈ X, V x
  cl : ∀ x ∈ X, ∀ y ∈ X, x ≠ y → T x y = true
def NoBad (T : Nat → Nat → Bool) (V : Nat → Prop) (X : List Nat) : Prop := ∀ y z, UX T V X z y → UX T V X y z → False
include S
theorem UX.sub (C : CliqueX T V X) {a b : Nat} (hb : V b) (nb : b ∉ X) (ne : a ≠ b) (nt : T a b = false) (n : ¬ UX T V X a b) : ∀ u, UX T V X a u → UX T V X b u := by
  rintro u ⟨x, hx, h⟩
  induction h with
  | refl p q r =>
    have xb : x ≠ b := fun e => nb (e ▸ hx)
    cases e : T x b
    · exact ⟨x, hx, .refl p xb e⟩
    · exact absurd ⟨x, hx, .step (.refl p q r) e hb (Ne.symm ne) (by rw [S.sy]; exact nt)⟩ n
  | step g p q r t ih =>
    rename_i y w
    by_cases e : w = b
    · subst e
      exact absurd ⟨x, hx, .step g p q r t⟩ n
    · cases e2 : T w b
      · exact ih.step p q e e2
      · exact absurd ⟨x, hx, .step (.step g p q r t) e2 hb (Ne.symm ne) (by rw [S.sy]; exact nt)⟩ n
/-- the points of one sort -/
def GrX (T : Nat → Nat → Bool) (V : Nat → Prop) (X : List Nat) (P : Nat → Prop) (c : Nat) : Prop := V c ∧ c ∉ X ∧ UX T V X c = P
def WX (T : Nat → Nat → Bool) (V : Nat → Prop) (X : List Nat) (P : Nat → Prop) (a : Nat) : Prop := GrX T V X P a ∧ ∃ b c, GrX T V X P b ∧ V c ∧ T a c = true ∧ UX T V X c b
/-- a point tied to all of the sort, off c -/
theorem ptSX (C : CliqueX T V X) {P : Nat → Prop} {b c : Nat} (hb : GrX T V X P b) (h : UX T V X c b) : ∃ s, UX T V X c s ∧ ∀ a, GrX T V X P a → T s a = true := by
  obtain ⟨x, hx, h⟩ := h
  have key : ∀ u, Off T V c x u → (∃ s, UX T V X c s ∧ ∀ a, GrX T V X P a → T s a = true) ∨ UX T V X b u := by
    intro u hu
    induction hu with
    | refl p q r =>
      have xb : x ≠ b := fun e => hb.2.1 (e ▸ hx)
      cases e : T x b
      · exact .inr ⟨x, hx, .refl p xb e⟩
      · refine .inl ⟨x, ⟨x, hx, .refl p q r⟩, fun a ha => ?_⟩
        cases e2 : T x a
        · have xa : x ≠ a := fun e => ha.2.1 (e ▸ hx)
          have h1 : UX T V X a x := ⟨x, hx, .refl p xa e2⟩
          rw [ha.2.2, ← hb.2.2] at h1
          rw [h1.last.2.2] at e
          cases e
        · rfl
    | step g p q r t ih =>
      rename_i y w
      rcases ih with k | k
      · exact .inl k
      · have wb : w ≠ b := fun e => by
          rw [e, k.last.2.2] at p
          cases p
        cases e : T w b
        · exact .inr (k.step p q wb e)
        · refine .inl ⟨w, ⟨x, hx, .step g p q r t⟩, fun a ha => ?_⟩
          have k2 : UX T V X a y := by rw [ha.2.2, ← hb.2.2]; exact k
          have wa : w ≠ a := fun e => by
            rw [e, k2.last.2.2] at p
            cases p
          cases e2 : T w a
          · have h1 := k2.step p q wa e2
            rw [ha.2.2, ← hb.2.2] at h1
            rw [h1.last.2.2] at e
            cases e
          · rfl
  rcases key b h with k | k
  · exact k
  · exact absurd rfl k.last.2.1
theorem gr_out {P : Nat → Prop} {b c : Nat} (hb : GrX T V X P b) (h : UX T V X c b) : ¬ GrX T V X P c := fun hc => by
  rw [hc.2.2, ← hb.2.2] at h
  exact h.last.2.1 rfl
theorem w_clique (C : CliqueX T V X) (c4 : NoR4 T V) (c5 : NoR5 T V) (nb : NoBad T V X) {P : Nat → Prop} {a1 a2 : Nat} (h1 : WX T V X P a1) (h2 : WX T V X P a2) (ne : a1 ≠ a2) : T a1 a2 = true := by
  cases e : T a1 a2
  · exfalso
    obtain ⟨g1, b1, c1, gb1, v1, t1, u1⟩ := h1
    obtain ⟨g2, b2, c2, gb2, v2, t2, u2⟩ := h2
    obtain ⟨s1, us1, as1⟩ := ptSX S C gb1 u1
    obtain ⟨s2, us2, as2⟩ := ptSX S C gb2 u2
    obtain ⟨vs1, n1, o1⟩ := us1.last
    obtain ⟨vs2, n2, o2⟩ := us2.last
    have sy := S.sy
    have x12 : T a2 c1 = false := by
      cases k : T a2 c1
      · rfl
      · exact (c4 a1 c1 a2 s1 g1.1 v1 g2.1 vs1 ne (Ne.symm n1) t1 (by rw [sy]; exact k) (by rw [sy]; exact as1 a2 g2) (as1 a1 g1) e (by rw [sy]; exact o1)).elim
    have x21 : T a1 c2 = false := by
      cases k : T a1 c2
      · rfl
      · exact (c4 a2 c2 a1 s2 g2.1 v2 g1.1 vs2 (Ne.symm ne) (Ne.symm n2) t2 (by rw [sy]; exact k) (by rw [sy]; exact as2 a1 g1) (as2 a2 g2) (by rw [sy]; exact e) (by rw [sy]; exact o2)).elim
    have nc : c1 ≠ c2 := fun k => by
      rw [k, x21] at t1
      cases t1
    have a1c2 : a1 ≠ c2 := fun k => by
      rw [← k, sy, e] at t2
      cases t2
    have a2c1 : a2 ≠ c1 := fun k => by
      rw [← k, e] at t1
      cases t1
    have cc : T c1 c2 = false := by
      cases k : T c1 c2
      · rfl
      · exfalso
        cases k2 : T c2 s1
        · exact c5 a1 c1 c2 a2 s1 g1.1 v1 v2 g2.1 vs1 t1 k (by rw [sy]; exact t2) (by rw [sy]; exact as1 a2 g2) (as1 a1 g1) x21 e (by rw [sy]; exact x12) (by rw [sy]; exact o1) k2
        · exact c4 a1 c1 c2 s1 g1.1 v1 v2 vs1 a1c2 (Ne.symm n1) t1 k k2 (as1 a1 g1) x21 (by rw [sy]; exact o1)
    refine nb c1 c2 ?_ ?_
    · exact (us2.step (as2 a1 g1) g1.1 a1c2 x21).step t1 v1 nc cc
    · exact (us1.step (as1 a2 g2) g2.1 a2c1 x12).step t2 v2 (Ne.symm nc) (by rw [sy]; exact cc)
  · rfl
/-- no bad pair within the sort -/
theorem w_nobad (C : CliqueX T V X) (c4 : NoR4 T V) (c5 : NoR5 T V) (at_ : NoAT T V) (nb : NoBad T V X) {P : Nat → Prop} {y z w w' : Nat} (hw : WX T V X P w) (hw' : WX T V X P w') (h1 : Off T (GrX T V X P) z w y) (h2 : Off T (GrX T V X P) y w' z) : False := by
  have sy := S.sy
  have sub : ∀ u, GrX T V X P u → V u := fun u k => k.1
  obtain ⟨gy, nyz, oyz⟩ := h1.last
  obtain ⟨gz, _, _⟩ := h2.last
  obtain ⟨gw, wz, owz⟩ := h1.first
  obtain ⟨gw', wy', owy'⟩ := h2.first
  have cl := fun {a b : Nat} (ha : WX T V X P a) (hb : WX T V X P b) (ne : a ≠ b) => w_clique S C c4 c5 nb ha hb ne
  have yW : ¬ WX T V X P y := fun k => by
    rw [cl hw' k wy'] at owy'
    cases owy'
  have zW : ¬ WX T V X P z := fun k => by
    rw [cl hw k wz] at owz
    cases owz
  obtain ⟨_, b, c, gb, vc, tc, uc⟩ := id hw
  obtain ⟨_, b', c', gb', vc', tc', uc'⟩ := id hw'
  obtain ⟨s, us, as_⟩ := ptSX S C gb uc
  obtain ⟨s', us', as'⟩ := ptSX S C gb' uc'
  have cG := gr_out S gb uc
  have cG' := gr_out S gb' uc'
  have off : ∀ {u d e : Nat}, ¬ WX T V X P u → GrX T V X P u → GrX T V X P d → V e → UX T V X e d → T u e = false ∧ u ≠ e := fun {u d e} nW gu gd ve ue => by
    refine ⟨?_, fun k => gr_out S gd ue (k ▸ gu)⟩
    cases k : T u e
    · rfl
    · exact absurd ⟨gu, d, e, gd, ve, k, ue⟩ nW
  obtain ⟨yc, yc2⟩ := off yW gy gb vc uc
  obtain ⟨zc, zc2⟩ := off zW gz gb vc uc
  obtain ⟨yc', yc2'⟩ := off yW gy gb' vc' uc'
  obtain ⟨zc', zc2'⟩ := off zW gz gb' vc' uc'
  have through : ∀ {e s : Nat}, UX T V X e s → (∀ a, GrX T V X P a → T s a = true) → T y e = false → y ≠ e → T z e = false → z ≠ e → Off T V e y z := fun {e s} us as_ y1 y2 z1 z2 => by
    obtain ⟨vs, s1, s2⟩ := us.last
    exact .step (.step (.refl gy.1 y2 y1) (by rw [sy]; exact as_ y gy) vs s1 s2) (as_ z gz) gz.1 z2 z1
  have yw : Off T V z y w := (h1.mono sub).symm S
  have zw' : Off T V y z w' := (h2.mono sub).symm S
  have ww : w ≠ w' → T w w' = true := fun ne => cl hw hw' ne
  have ywne : w ≠ y := fun e => yW (e ▸ hw)
  have zwne : w' ≠ z := fun e => zW (e ▸ hw')
  cases k1 : T w y
  · -- c is reached from both
    refine at_ y z c (through us as_ yc yc2 zc zc2) (.step yw tc vc (Ne.symm zc2) (by rw [sy]; exact zc)) ?_
    have zw : Off T V y z w := by
      by_cases e : w = w'
      · rw [e]; exact zw'
      · exact .step zw' (by rw [sy]; exact ww e) gw.1 ywne k1
    exact .step zw tc vc (Ne.symm yc2) (by rw [sy]; exact yc)
  cases k2 : T w' z
  · refine at_ y z c' (through us' as' yc' yc2' zc' zc2') ?_ (.step zw' tc' vc' (Ne.symm yc2') (by rw [sy]; exact yc'))
    have yw' : Off T V z y w' := by
      by_cases e : w = w'
      · rw [← e]; exact yw
      · exact .step yw (ww e) gw'.1 zwne k2
    exact .step yw' tc' vc' (Ne.symm zc2') (by rw [sy]; exact zc')
  have ne : w ≠ w' := fun e => by
    rw [← e, owz] at k2
    cases k2
  cases k3 : T w' c
  · cases k4 : T w c'
    · have ncc : c ≠ c' := fun e => by
        rw [← e, k3] at tc'
        cases tc'
      have wc' : w ≠ c' := fun e => cG' (e ▸ gw)
      have w'c : w' ≠ c := fun e => cG (e ▸ gw')
      have cc : T c c' = false := by
        cases k5 : T c c'
        · rfl
        · exact (c4 c w w' c' vc gw.1 gw'.1 vc' (Ne.symm w'c) wc' (by rw [sy]; exact tc) (ww ne) tc' (by rw [sy]; exact k5) (by rw [sy]; exact k3) k4).elim
      refine nb c c' ?_ ?_
      · exact (us'.step (as' w gw) gw.1 wc' k4).step tc vc ncc cc
      · exact (us.step (as_ w' gw') gw'.1 w'c k3).step tc' vc' (Ne.symm ncc) (by rw [sy]; exact cc)
    · refine at_ y z c' (through us' as' yc' yc2' zc' zc2') (.step yw k4 vc' (Ne.symm zc2') (by rw [sy]; exact zc')) (.step zw' tc' vc' (Ne.symm yc2') (by rw [sy]; exact yc'))
  · exact at_ y z c (through us as_ yc yc2 zc zc2) (.step yw tc vc (Ne.symm zc2) (by rw [sy]; exact zc)) (.step zw' k3 vc (Ne.symm yc2) (by rw [sy]; exact yc))
open Classical in
/-- the order, a company of points least in it -/
theorem lb_ord : ∀ (n : Nat) (l X : List Nat), l.length ≤ n → X ≠ [] → CliqueX T (· ∈ l) X → NoR4 T (· ∈ l) → NoR5 T (· ∈ l) → NoAT T (· ∈ l) → NoBad T (· ∈ l) X → ∃ lt, Ord T (· ∈ l) lt ∧ ∀ x ∈ X, ∀ y, ¬ lt y x
  | 0, l, X, h, ne, C, _, _, _, _ => by
    obtain ⟨x, hx⟩ := List.exists_mem_of_ne_nil X ne
    have := C.inV x hx
    rw [List.length_eq_zero_iff.mp (Nat.le_zero.mp h)] at this
    cases this
  | n + 1, l, X, h, ne, C, c4, c5, at_, nb => by
    have sy := S.sy
    obtain ⟨x0, hx0⟩ := List.exists_mem_of_ne_nil X ne
    have inner : ∀ P : Nat → Prop, ∃ lt, Ord T (GrX T (· ∈ l) X P) lt ∧ ∀ a, WX T (· ∈ l) X P a → ∀ b, ¬ lt a b := by
      intro P
      have mem : ∀ u, u ∈ l.filter (fun c => decide (GrX T (· ∈ l) X P c)) ↔ GrX T (· ∈ l) X P u := fun u => by
        rw [List.mem_filter, decide_eq_true_eq]
        exact ⟨fun k => k.2, fun k => ⟨k.1, k⟩⟩
      have eV : (· ∈ l.filter fun c => decide (GrX T (· ∈ l) X P c)) = GrX T (· ∈ l) X P := funext fun u => propext (mem u)
      have lt := len_lt (l := l) (p := GrX T (· ∈ l) X P) (C.inV x0 hx0) fun k => k.2.1 hx0
      have sub : ∀ u, GrX T (· ∈ l) X P u → u ∈ l := fun u k => k.1
      have c4' := c4.sub sub
      have c5' := c5.sub sub
      have at' := at_.sub sub
      by_cases hW : ∃ a, WX T (· ∈ l) X P a
      · obtain ⟨a0, ha0⟩ := hW
        have memW : ∀ u, u ∈ l.filter (fun c => decide (WX T (· ∈ l) X P c)) ↔ WX T (· ∈ l) X P u := fun u => by
          rw [List.mem_filter, decide_eq_true_eq]
          exact ⟨fun k => k.2, fun k => ⟨k.1.1, k⟩⟩
        have := lb_ord n (l.filter fun c => decide (GrX T (· ∈ l) X P c)) (l.filter fun c => decide (WX T (· ∈ l) X P c)) (by omega) (List.ne_nil_of_mem ((memW a0).mpr ha0))
        rw [eV] at this
        obtain ⟨lt', o, mn⟩ := this ⟨fun x hx => ((memW x).mp hx).1, fun x hx y hy ne => w_clique S C c4 c5 nb ((memW x).mp hx) ((memW y).mp hy) ne⟩ c4' c5' at' fun y z ⟨w, hw, h1⟩ ⟨w', hw', h2⟩ => w_nobad S C c4 c5 at_ nb ((memW w).mp hw) ((memW w').mp hw') h1 h2
        exact ⟨fun a b => lt' b a, o.rev S, fun a ha b k => mn a ((memW a).mpr ha) b k⟩
      · by_cases hG : l.filter (fun c => decide (GrX T (· ∈ l) X P c)) = []
        · have no : ∀ u, ¬ GrX T (· ∈ l) X P u := fun u k => by
            have := (mem u).mpr k
            rw [hG] at this
            cases this
          exact ⟨fun _ _ => False, ⟨fun k => False.elim k, fun p => absurd p (no _), fun k => False.elim k, fun k => False.elim k⟩, fun _ _ _ k => k⟩
        · have pk := poke S _ (l.filter fun c => decide (GrX T (· ∈ l) X P c)) (Nat.le_refl _) hG
          have := lb_ord n (l.filter fun c => decide (GrX T (· ∈ l) X P c))
          rw [eV] at this pk
          obtain ⟨v, hv, hno⟩ := pk at'
          have hv := (mem v).mp hv
          obtain ⟨lt', o, _⟩ := this [v] (by omega) (by simp) ⟨fun x hx => by rw [List.mem_singleton.mp hx]; exact hv, fun x hx y hy ne => absurd ((List.mem_singleton.mp hx).trans (List.mem_singleton.mp hy).symm) ne⟩ c4' c5' at' fun y z ⟨w, hw, h1⟩ ⟨w', hw', h2⟩ => by
            rw [List.mem_singleton.mp hw] at h1
            rw [List.mem_singleton.mp hw'] at h2
            exact hno y z h1 h2
          exact ⟨lt', o, fun a ha => absurd ⟨a, ha⟩ hW⟩
    let U := UX T (· ∈ l) X
    have hU : U = UX T (· ∈ l) X := rfl
    let inn : (Nat → Prop) → Nat → Nat → Prop := fun P => Classical.choose (inner P)
    have inO : ∀ P, Ord T (GrX T (· ∈ l) X P) (inn P) := fun P => (Classical.choose_spec (inner P)).1
    have inW : ∀ P a, WX T (· ∈ l) X P a → ∀ b, ¬ inn P a b := fun P => (Classical.choose_spec (inner P)).2
    clear_value inn
    -- what lies between two points that are not tied
    have Usub : ∀ {a b : Nat}, b ∈ l → b ∉ X → a ≠ b → T a b = false → ¬ U a b → ∀ u, U a u → U b u := fun hb nb ne nt n => UX.sub S C hb nb ne nt n
    have both : ∀ {a b}, U b a → U a b → False := fun {a b} p q => nb a b p q
    let lt : Nat → Nat → Prop := fun a b => a ∈ l ∧ b ∈ l ∧ a ≠ b ∧ T a b = false ∧ b ∉ X ∧ (a ∈ X ∨ (a ∉ X ∧ (U b a ∨ (¬ U b a ∧ ¬ U a b ∧ U a = U b ∧ inn (U a) a b))))
    have same : ∀ {a b}, a ∈ l → b ∈ l → a ∉ X → b ∉ X → a ≠ b → T a b = false → ¬ U b a → ¬ U a b → U a = U b := fun {a b} ha hb xa xb ne nt p q => funext fun u => propext ⟨Usub hb xb ne nt q u, Usub ha xa (Ne.symm ne) (by rw [sy]; exact nt) p u⟩
    refine ⟨lt, ⟨fun k => ⟨k.1, k.2.1, k.2.2.1, k.2.2.2.1⟩, fun {a b} ha hb ne nt => ?_, fun {a b} k g => ?_, fun {a b c} k g => ?_⟩, fun x hx y k => k.2.2.2.2.1 hx⟩
    · have nt' : T b a = false := by rw [sy]; exact nt
      by_cases xa : a ∈ X
      · by_cases xb : b ∈ X
        · rw [C.cl a xa b xb ne] at nt
          cases nt
        · exact .inl ⟨ha, hb, ne, nt, xb, .inl xa⟩
      · by_cases xb : b ∈ X
        · exact .inr ⟨hb, ha, Ne.symm ne, nt', xa, .inl xb⟩
        · by_cases p : U b a
          · exact .inl ⟨ha, hb, ne, nt, xb, .inr ⟨xa, .inl p⟩⟩
          · by_cases q : U a b
            · exact .inr ⟨hb, ha, Ne.symm ne, nt', xa, .inr ⟨xb, .inl q⟩⟩
            · have e := same ha hb xa xb ne nt p q
              rcases (inO (U a)).tot ⟨ha, xa, rfl⟩ ⟨hb, xb, e.symm⟩ ne nt with k | k
              · exact .inl ⟨ha, hb, ne, nt, xb, .inr ⟨xa, .inr ⟨p, q, e, k⟩⟩⟩
              · exact .inr ⟨hb, ha, Ne.symm ne, nt', xa, .inr ⟨xb, .inr ⟨q, p, e.symm, by rw [← e]; exact k⟩⟩⟩
    · obtain ⟨ha, hb, ne, nt, xb, k⟩ := k
      obtain ⟨_, _, _, _, xa, g⟩ := g
      rcases k with k | ⟨_, k⟩
      · exact xa k
      rcases g with g | ⟨_, g⟩
      · exact xb g
      rcases k with k | ⟨k1, k2, k3, k4⟩
      · rcases g with g | ⟨g1, g2, g3, g4⟩
        · exact both k g
        · exact g2 k
      · rcases g with g | ⟨g1, g2, g3, g4⟩
        · exact k2 g
        · rw [g3] at g4
          exact (inO (U a)).asy k4 g4
    · obtain ⟨ha, hb, ne, nt, xb, k⟩ := k
      obtain ⟨_, hc, ne2, nt2, xc, g⟩ := g
      have nt2' : T c b = false := by rw [sy]; exact nt2
      rcases k with k | ⟨xa, k⟩
      · -- a is one of X
        have ac : a ≠ c := fun e => xc (e ▸ k)
        have aUb : U b a := ⟨a, k, .refl ha ne nt⟩
        have tac : T a c = false := by
          rcases g with g | ⟨_, g | ⟨g1, g2, g3, g4⟩⟩
          · exact absurd g xb
          · cases e : T a c
            · rfl
            · exact (both g (UX.step aUb e hc (Ne.symm ne2) nt2')).elim
          · rw [g3] at aUb
            exact aUb.last.2.2
        exact ⟨ha, hc, ac, tac, xc, .inl k⟩
      · rcases g with g | ⟨_, g⟩
        · exact absurd g xb
        rcases k with k | ⟨k1, k2, k3, k4⟩
        · have Uca : U c a := by
            rcases g with g | ⟨g1, g2, g3, g4⟩
            · exact Usub hc xc ne2 nt2 (fun q => both g q) a k
            · rw [← g3]; exact k
          obtain ⟨_, ac, tac⟩ := Uca.last
          exact ⟨ha, hc, ac, tac, xc, .inr ⟨xa, .inl Uca⟩⟩
        · rcases g with g | ⟨g1, g2, g3, g4⟩
          · have ac : a ≠ c := fun e => by
              rw [← e] at g
              exact k2 g
            have tac : T a c = false := by
              cases e : T a c
              · rfl
              · exact absurd k4 (inW (U a) a ⟨⟨ha, xa, rfl⟩, b, c, ⟨hb, xb, k3.symm⟩, hc, e, g⟩ b)
            have Uca : U c a := by
              apply Classical.byContradiction
              intro n1
              by_cases n2 : U a c
              · rw [k3] at n2
                exact both g n2
              · have e := same ha hc xa xc ac tac n1 n2
                rw [← e] at g
                exact k2 g
            exact ⟨ha, hc, ac, tac, xc, .inr ⟨xa, .inl Uca⟩⟩
          · have k5 := (inO (U a)).tr k4 (by rw [k3]; exact g4)
            obtain ⟨_, _, ac, tac⟩ := (inO (U a)).of k5
            have e : U a = U c := k3.trans g3
            exact ⟨ha, hc, ac, tac, xc, .inr ⟨xa, .inr ⟨fun q => by rw [← e] at q; exact q.last.2.1 rfl, fun q => by rw [e] at q; exact q.last.2.1 rfl, e, k5⟩⟩⟩
/-- the order of all -/
theorem lb (l : List Nat) (c4 : NoR4 T (· ∈ l)) (c5 : NoR5 T (· ∈ l)) (at_ : NoAT T (· ∈ l)) : ∃ lt, Ord T (· ∈ l) lt := by
  by_cases e : l = []
  · subst e
    exact ⟨fun _ _ => False, fun k => False.elim k, fun p => (nomatch p), fun k => False.elim k, fun k => False.elim k⟩
  · obtain ⟨v, hv, hno⟩ := poke S _ l (Nat.le_refl _) e at_
    obtain ⟨lt, o, _⟩ := lb_ord S _ l [v] (Nat.le_refl _) (by simp) ⟨fun x hx => by rw [List.mem_singleton.mp hx]; exact hv, fun x hx y hy ne => absurd ((List.mem_singleton.mp hx).trans (List.mem_singleton.mp hy).symm) ne⟩ c4 c5 at_ fun y z ⟨w, hw, h1⟩ ⟨w', hw', h2⟩ => by
      rw [List.mem_singleton.mp hw] at h1
      rw [List.mem_singleton.mp hw'] at h2
      exact hno y z h1 h2
    exact ⟨lt, o⟩
end
end Ns
/-! Own layer: {t: v}, t a tuple. -/
namespace Ns
open PySem PySem.Spec PyProof.Rows L2
/-- {k: v} with one key, a tuple of ints and texts -/
def tDispT1 (tk tv : TE) : TE := fun σ H Q => ∀ p, H p = none → tk σ (upd H p (.dT [])) fun x H1 => tv σ H1 fun y H2 => ∃ (k : List Key) (b : Addr), x = .ref b ∧ H2 b = some (.tup (k.map kV)) ∧ H2 p = some (.dT []) ∧ Q (.ref p) (upd H2 p (.dT [(k, y)]))
def QT1 (p : Addr) (Q : VK) : List (V × V) → Hp → Prop
  | [(x, y)], H2 => ∃ (k : List Key) (b : Addr), x = .ref b ∧ H2 b = some (.tup (k.map kV)) ∧ H2 p = some (.dT []) ∧ Q (.ref p) (upd H2 p (.dT [(k, y)]))
  | _, _ => False
theorem pe_dispT1 {X : Cx} {pos : Pos} {k v : Expr} {tk tv : TE} (hu : X.A.units < cLine) (hk : PE X k tk) (hv : PE X v tv) : PE X (.Dict [some k] [v] pos) (tDispT1 tk tv) := by
  refine ⟨fun pins s σ H Q I q => ?_⟩
  have hn := I.hok.fresh (Nat.le_refl s.heap.objs.size)
  have I1 := I.laid (a := s.heap.objs.size) (o := .dT []) (h' := s.heap.push { cls := .type "dict", data := .dict #[] }) (t' := s.toks) (fun _ _ q => Heap.get?_push_of_some _ q) (Nat.le_refl _) (dt_empty s.heap I.big)
  have hl := pairTrees_length [some k] [v] X.env pos rfl rfl
  rw [arm_eval_Dict, zip_pairTrees [some k] [v] X.env pos rfl rfl, dictDisplay_pairs _ (fun e => by rw [e] at hl; cases hl) (by rw [hl]; show 1 < 17; decide)]
  refine wpAny_bind (wpAny_standAt (wpAny_bind ?_))
  unfold subDict
  refine wpAny_bind (wpAny_alloc ?_)
  refine wpAny_bind (wpAny_holding ?_)
  rw [if_pos (by rw [hl]; show 1 ≤ 15; decide)]
  have run := (pps_cons (pos := pos) hk hv pps_nil).run pins _ σ _ (QT1 s.heap.objs.size Q) I1 (q _ hn)
  refine wpAny_bind (thn run fun vs s1 ⟨ps, H2, I2, rel, q2⟩ => ?_)
  cases rel with
  | nil => exact q2.elim
  | @cons pv qv as bs r rr =>
    cases rr with
    | cons _ _ => exact q2.elim
    | nil =>
      rcases pv with ⟨x, y⟩
      rcases qv with ⟨key, val⟩
      obtain ⟨kk, b, ex, hb, hp, q2⟩ := q2
      obtain ⟨r1, r2⟩ := r
      have ex : x = V.ref b := ex
      subst ex
      obtain rfl : key = Value.ref b := r1
      refine wpAny_holding ?_
      obtain ⟨z, hd, xs, rel, dd⟩ := dt_of I2.hok hp
      cases rel
      refine wpAny_bind ?_
      rw [List.forIn_cons]
      refine wpAny_bind (wpAny_bind (wpAny_dictSet_heap (hsz := Nat.zero_le _) (knd := tupleKind (mixKind X.prog X.w)) hu (key_of I2.hok hb) dd fun h' dd' hs => wpAny_pure ?_))
      dsimp only
      rw [List.forIn_nil]
      refine wpAny_pure (wpAny_pure (wpAny_pure (wpAny_pure ⟨.ref s.heap.objs.size, _, ?_, rfl, q2⟩)))
      obtain ⟨qo, es, ep, hq, h2, h3, h4, _, h5⟩ := dd'
      refine d_write I2 (by rw [hp]; exact True.intro) hs ⟨qo, hq⟩ ⟨by rw [sizeLine_eq]; show 1 ≤ 16777216; decide, hd, _, (KT.put (kvs := []) (xs := []) .nil kk hb r2).keeps fun c ys ec => ?_, qo, es, ep, hq, h2, h3, h4, h5⟩
      rw [upd_ne (ne_of ec hp (fun z => nomatch z))]
      exact ec
/-- a if c else b, as a test -/
def tIfT (tc ta tb : TT) : TT := fun σ H Q => tc σ H fun d H1 => if d = true then ta σ H1 Q else tb σ H1 Q
theorem pt_ifExp {X : Cx} {c a b : Expr} {pos : Pos} {tc ta tb : TT} (hc : PT X c tc) (ha : PT X a ta) (hb : PT X b tb) : PT X (.IfExp c a b pos) (tIfT tc ta tb) := by
  refine ⟨fun pins s σ H Q I h => ?_⟩
  refine isTrue_IfExp (thn (hc.run pins s σ H _ I h) fun d s1 ⟨H1, I1, q1⟩ => ?_)
  cases d with
  | true =>
    rw [if_pos rfl] at q1 ⊢
    exact ha.run pins s1 σ H1 Q I1 q1
  | false =>
    rw [if_neg Bool.false_ne_true] at q1 ⊢
    exact hb.run pins s1 σ H1 Q I1 q1
end Ns
/-! Own layer: arrows that force one another, in plain Lean: what is forced class by class goes through. -/
namespace Ns
/-- arrows -/
abbrev Ar := Nat → Nat → Prop
/-- one arrow forces another, at once -/
inductive Frc (E : Ar) : Nat → Nat → Nat → Nat → Prop
  | head {a b c : Nat} : E a b → E a c → ¬ E b c → b ≠ c → Frc E a b a c
  | tail {a b c : Nat} : E a b → E c b → ¬ E a c → a ≠ c → Frc E a b c b
/-- again and again -/
inductive Cls (E : Ar) (a b : Nat) : Nat → Nat → Prop
  | self : E a b → Cls E a b a b
  | step {x y u v : Nat} : Cls E a b x y → Frc E x y u v → Cls E a b u v
structure Und (E : Ar) : Prop where
  sy : ∀ {x y}, E x y → E y x
  ir : ∀ {x}, ¬ E x x
section
variable {E : Ar} (U : Und E)
include U
theorem Frc.symm {a b c d : Nat} (h : Frc E a b c d) : Frc E c d a b := by
  cases h with
  | head h1 h2 h3 h4 => exact .head h2 h1 (fun z => h3 (U.sy z)) fun z => h4 z.symm
  | tail h1 h2 h3 h4 => exact .tail h2 h1 (fun z => h3 (U.sy z)) fun z => h4 z.symm
theorem Frc.rev {a b c d : Nat} (h : Frc E a b c d) : Frc E b a d c := by
  cases h with
  | head h1 h2 h3 h4 => exact .tail (U.sy h1) (U.sy h2) h3 h4
  | tail h1 h2 h3 h4 => exact .head (U.sy h1) (U.sy h2) h3 h4
omit U in
theorem Cls.arr {a b x y : Nat} (h : Cls E a b x y) : E x y := by
  cases h with
  | self h => exact h
  | step _ f => cases f <;> assumption
omit U in
theorem Cls.base {a b x y : Nat} (h : Cls E a b x y) : E a b := by
  induction h with
  | self h => exact h
  | step _ _ ih => exact ih
omit U in
theorem Cls.trans {a b x y u v : Nat} (h : Cls E a b x y) (g : Cls E x y u v) : Cls E a b u v := by
  induction g with
  | self _ => exact h
  | step _ f ih => exact .step ih f
theorem Cls.symm {a b x y : Nat} (h : Cls E a b x y) : Cls E x y a b := by
  induction h with
  | self h => exact .self h
  | step h f ih =>
    have f2 := f.symm U
    have e : E _ _ := (Cls.step h f).arr
    exact (Cls.step (.self e) f2).trans ih
theorem Cls.rev {a b x y : Nat} (h : Cls E a b x y) : Cls E b a y x := by
  induction h with
  | self h => exact .self (U.sy h)
  | step _ f ih => exact .step ih (f.rev U)
/-- the lemma of triangles: bc in A, ac in B, ab in C -/
theorem tri {a b c : Nat} (hab : E a b) (hac : E a c) (hbc : E b c) (h1 : ¬ Cls E b c a c) (h2 : ¬ Cls E b c b a) {x y : Nat} (h : Cls E b c x y) : Cls E a b a x ∧ Cls E a c a y := by
  induction h with
  | self _ => exact ⟨.self hab, .self hac⟩
  | @step x y u v hxy f ih =>
    obtain ⟨i1, i2⟩ := ih
    have hax := i1.arr
    have hay := i2.arr
    cases f with
    | head g1 g2 g3 g4 =>
      -- x y, x v with y v apart
      refine ⟨i1, ?_⟩
      have hav : E a v := by
        apply Classical.byContradiction
        intro hn
        have hne : v ≠ a := fun e => by
          -- x a: the arrow of A touches a
          subst e
          exact h2 (((Cls.step hxy (.head g1 g2 g3 g4)).trans ((i1.rev U).symm U)))
        have f2 : Frc E x v x a := .head g2 (U.sy hax) (fun z => hn (U.sy z)) hne
        exact h2 ((Cls.step (Cls.step hxy (.head g1 g2 g3 g4)) f2).trans ((i1.rev U).symm U))
      exact .step i2 (.head hay hav g3 g4)
    | tail g1 g2 g3 g4 =>
      refine ⟨?_, i2⟩
      have hau : E a u := by
        apply Classical.byContradiction
        intro hn
        have hne : u ≠ a := fun e => by
          subst e
          exact h1 ((Cls.step hxy (.tail g1 g2 g3 g4)).trans (i2.symm U))
        have f2 : Frc E u y a y := .tail g2 hay (fun z => hn (U.sy z)) hne
        exact h1 ((Cls.step (Cls.step hxy (.tail g1 g2 g3 g4)) f2).trans (i2.symm U))
      exact .step i1 (.head hax hau g3 g4)
/-- no arrow of A touches a -/
theorem tri_off {a b c : Nat} (hab : E a b) (hac : E a c) (hbc : E b c) (h1 : ¬ Cls E b c a c) (h2 : ¬ Cls E b c b a) {x y : Nat} (h : Cls E b c x y) : x ≠ a ∧ y ≠ a := by
  obtain ⟨i1, i2⟩ := tri U hab hac hbc h1 h2 h
  exact ⟨fun e => U.ir (e ▸ i1.arr), fun e => U.ir (e ▸ i2.arr)⟩
end
/-- no class holds an arrow and the same one turned round -/
def NoTurn (E : Ar) : Prop := ∀ a b, E a b → ¬ Cls E a b b a
/-- such a class goes through -/
theorem cls_trans {E : Ar} (U : Und E) (N : NoTurn E) {p q a b c : Nat} (h1 : Cls E p q a b) (h2 : Cls E p q b c) : Cls E p q a c := by
  have hbc : Cls E b c a b := (h2.symm U).trans h1
  have hac : E a c := by
    apply Classical.byContradiction
    intro hn
    have hne : a ≠ c := fun e => by
      subst e
      exact N _ _ h1.arr ((h1.symm U).trans h2)
    -- a b and c b: tails a, c apart
    have f : Frc E a b c b := .tail h1.arr (U.sy h2.arr) hn hne
    exact N _ _ h2.arr ((Cls.step hbc f))
  apply Classical.byContradiction
  intro hn
  have k1 : ¬ Cls E b c a c := fun z => hn (h2.trans z)
  have k2 : ¬ Cls E b c b a := fun z => N _ _ h1.arr ((h1.symm U).trans (h2.trans z))
  exact (tri_off U h1.arr hac h2.arr k1 k2 hbc).1 rfl
/-- what is left without a class and the class turned round -/
def cutA (E : Ar) (p q : Nat) : Ar := fun x y => E x y ∧ ¬ Cls E p q x y ∧ ¬ Cls E p q y x
theorem cutA_und {E : Ar} (U : Und E) (p q : Nat) : Und (cutA E p q) := ⟨fun h => ⟨U.sy h.1, h.2.2, h.2.1⟩, fun h => U.ir h.1⟩
/-- arrows, one for each tie, that go through -/
structure TO (E F : Ar) : Prop where
  sub : ∀ {x y}, F x y → E x y
  all : ∀ {x y}, E x y → F x y ∨ F y x
  one : ∀ {x y}, F x y → ¬ F y x
  go : ∀ {x y z}, F x y → F y z → F x z
/-- a class, and arrows of the rest -/
theorem to_add {E F : Ar} (U : Und E) (N : NoTurn E) {p q : Nat} (O : TO (cutA E p q) F) : TO E fun x y => Cls E p q x y ∨ F x y := by
  have turn : ∀ {x y}, Cls E p q x y → ¬ Cls E p q y x := fun h g => N _ _ h.arr ((h.symm U).trans g)
  have off : ∀ {x y}, F x y → ¬ Cls E p q x y ∧ ¬ Cls E p q y x := fun h => (O.sub h).2
  refine ⟨fun h => h.elim (fun h => h.arr) fun h => (O.sub h).1, fun {x y} h => ?_, fun {x y} h g => ?_, fun {x y z} h g => ?_⟩
  · by_cases c : Cls E p q x y
    · exact .inl (.inl c)
    · by_cases d : Cls E p q y x
      · exact .inr (.inl d)
      · rcases O.all (show cutA E p q x y from ⟨h, c, d⟩) with h | h
        · exact .inl (.inr h)
        · exact .inr (.inr h)
  · rcases h with h | h <;> rcases g with g | g
    · exact turn h g
    · exact (off g).2 h
    · exact (off h).2 g
    · exact O.one h g
  · rcases h with h | h <;> rcases g with g | g
    · exact .inl (cls_trans U N h g)
    · -- xy in the class, yz of the rest
      have hyz := (O.sub g).1
      have hxz : E x z := by
        apply Classical.byContradiction
        intro hn
        have hne : x ≠ z := fun e => by
          subst e
          exact (off g).2 h
        exact (off g).2 (.step h (.tail h.arr (U.sy hyz) hn hne))
      by_cases c : Cls E p q x z
      · exact .inl c
      · by_cases d : Cls E p q z x
        · exact absurd (cls_trans U N d h) (off g).2
        · rcases O.all (show cutA E p q x z from ⟨hxz, c, d⟩) with k | k
          · exact .inr k
          · exact absurd h (off (O.go g k)).2
    · have hxy := (O.sub h).1
      have hxz : E x z := by
        apply Classical.byContradiction
        intro hn
        have hne : z ≠ x := fun e => by
          subst e
          exact (off h).2 g
        exact (off h).2 (.step g (.head g.arr (U.sy hxy) (fun w => hn (U.sy w)) hne))
      by_cases c : Cls E p q x z
      · exact .inl c
      · by_cases d : Cls E p q z x
        · exact absurd (cls_trans U N g d) (off h).2
        · rcases O.all (show cutA E p q x z from ⟨hxz, c, d⟩) with k | k
          · exact .inr k
          · exact absurd g (off (O.go k h)).2
    · exact .inr (O.go h g)
/-- over a triangle with one side cut and the two others unlike: how their arrows stand to all cut ones -/
theorem tri_col {E : Ar} (U : Und E) {p q x0 u v : Nat} (hA : Cls E p q u v) (hu : cutA E p q x0 u) (hv : cutA E p q x0 v) (ne : ¬ Cls E x0 u x0 v) {r s : Nat} (h : Cls E x0 u r s ∨ Cls E x0 v r s) :
    (∀ x y, Cls E p q x y → Cls E x0 u r x ∧ Cls E x0 v r y) ∧ ∃ w, Cls E p q s w ∨ Cls E p q w s := by
  have eA : ∀ {x y}, Cls E p q x y → Cls E u v x y := fun h => (hA.symm U).trans h
  have ne2 : ¬ Cls E x0 v x0 u := fun z => ne (z.symm U)
  have offC : ∀ {x y}, Cls E x0 u x y → ¬ Cls E p q x y ∧ ¬ Cls E p q y x := fun h => ⟨fun z => hu.2.1 (z.trans (h.symm U)), fun z => hu.2.2 (z.trans ((h.symm U).rev U))⟩
  have offB : ∀ {x y}, Cls E x0 v x y → ¬ Cls E p q x y ∧ ¬ Cls E p q y x := fun h => ⟨fun z => hv.2.1 (z.trans (h.symm U)), fun z => hv.2.2 (z.trans ((h.symm U).rev U))⟩
  rcases h with h | h
  · have g := tri U (a := v) (b := x0) (c := u) (U.sy hv.1) (U.sy hA.arr) hu.1 (fun z => (offC z).2 hA) ne h
    have h1 : Cls E x0 v r v := g.1.rev U
    have h2 : Cls E p q s v := hA.trans (g.2.rev U)
    refine ⟨fun x y hxy => ?_, v, .inl h2⟩
    have k := tri U (a := r) (b := s) (c := v) h.arr h1.arr h2.arr (fun z => (offB h1).1 (h2.trans z)) (fun z => (offC h).2 (h2.trans z)) ((h2.symm U).trans hxy)
    exact ⟨h.trans k.1, h1.trans k.2⟩
  · have g := tri U (a := u) (b := x0) (c := v) (U.sy hu.1) hA.arr hv.1 (fun z => (offB z).1 hA) ne2 h
    have h1 : Cls E x0 u r u := g.1.rev U
    have h2 : Cls E p q u s := hA.trans g.2
    refine ⟨fun x y hxy => ?_, u, .inr h2⟩
    have k := tri U (a := r) (b := u) (c := s) h1.arr h.arr h2.arr (fun z => (offB h).1 (h2.trans z)) (fun z => (offC h1).2 (h2.trans z)) ((h2.symm U).trans hxy)
    exact ⟨h1.trans k.1, h.trans k.2⟩
/-- the arrow lies over a triangle with one side cut and the two others unlike -/
def Col (E : Ar) (p q a b : Nat) : Prop := ∃ x0 u v, Cls E p q u v ∧ cutA E p q x0 u ∧ cutA E p q x0 v ∧ ¬ Cls E x0 u x0 v ∧ (Cls E x0 u a b ∨ Cls E x0 v a b)
theorem cut_or {E : Ar} {p q x y : Nat} (h : ¬ cutA E p q x y) (e : E x y) : Cls E p q x y ∨ Cls E p q y x := by
  apply Classical.byContradiction
  intro hn
  exact h ⟨e, fun z => hn (.inl z), fun z => hn (.inr z)⟩
theorem col_turn {E : Ar} (U : Und E) (N : NoTurn E) {p q a b : Nat} (h : Col E p q a b) : ¬ Cls (cutA E p q) a b b a := by
  obtain ⟨x0, u, v, hA, hu, hv, ne, h0⟩ := h
  have stay : ∀ {x y}, Cls (cutA E p q) a b x y → Cls E x0 u x y ∨ Cls E x0 v x y := fun g => by
    induction g with
    | self _ => exact h0
    | @step r s r2 s2 _ f ih =>
      obtain ⟨k1, w, k2⟩ := tri_col U hA hu hv ne ih
      cases f with
      | head g1 g2 g3 g4 =>
        by_cases e : E s s2
        · rcases cut_or g3 e with c | c
          · exact .inr (k1 _ _ c).2
          · exact .inl (k1 _ _ c).1
        · exact ih.imp (fun i => .step i (.head g1.1 g2.1 e g4)) fun i => .step i (.head g1.1 g2.1 e g4)
      | tail g1 g2 g3 g4 =>
        by_cases e : E r r2
        · rcases cut_or g3 e with c | c
          · exact absurd (k1 _ _ c).1.arr U.ir
          · exact absurd (k1 _ _ c).2.arr U.ir
        · exact ih.imp (fun i => .step i (.tail g1.1 g2.1 e g4)) fun i => .step i (.tail g1.1 g2.1 e g4)
  intro g
  obtain ⟨k1, w, k2⟩ := tri_col U hA hu hv ne h0
  obtain ⟨m1, _⟩ := tri_col U hA hu hv ne (stay g)
  rcases k2 with c | c
  · exact absurd (m1 _ _ c).1.arr U.ir
  · exact absurd (m1 _ _ c).2.arr U.ir
/-- what is left turns no arrow either -/
theorem cut_turn {E : Ar} (U : Und E) (N : NoTurn E) (p q : Nat) : NoTurn (cutA E p q) := by
  intro a b hab g
  have U2 := cutA_und U p q
  by_cases c1 : Col E p q a b
  · exact col_turn U N c1 g
  by_cases c2 : Col E p q b a
  · exact col_turn U N c2 (g.rev U2)
  have stay : ∀ {x y}, Cls (cutA E p q) a b x y → Cls E a b x y := fun g => by
    induction g with
    | self h => exact .self h.1
    | @step r s r2 s2 _ f ih =>
      cases f with
      | head g1 g2 g3 g4 =>
        by_cases e : E s s2
        · apply Classical.byContradiction
          intro hn
          have hne : ¬ Cls E r s r s2 := fun w => hn (ih.trans w)
          have back := ih.symm U
          rcases cut_or g3 e with c | c
          · exact c1 ⟨r, s, s2, c, g1, g2, hne, .inl back⟩
          · exact c1 ⟨r, s2, s, c, g2, g1, fun w => hne (w.symm U), .inr back⟩
        · exact .step ih (.head g1.1 g2.1 e g4)
      | tail g1 g2 g3 g4 =>
        by_cases e : E r r2
        · apply Classical.byContradiction
          intro hn
          have hne : ¬ Cls E s r s r2 := fun w => hn (ih.trans (w.rev U))
          have back := (ih.rev U).symm U
          rcases cut_or g3 e with c | c
          · exact c2 ⟨s, r, r2, c, U2.sy g1, U2.sy g2, hne, .inl back⟩
          · exact c2 ⟨s, r2, r, c, U2.sy g2, U2.sy g1, fun w => hne (w.symm U), .inr back⟩
        · exact .step ih (.tail g1.1 g2.1 e g4)
  exact N _ _ hab.1 (stay g)
end Ns
/-! Own layer I: enumerate over a tuple. -/
namespace PySem
open Sem (wp)
open Builtin
open AutoSeq1 (wpAny_loadPart')
set_option maxHeartbeats 1000000 in
theorem meets_enum_newT (l : Addr) (o : Obj) (items : Array Value) (n : Nat) (hc : o.cls = .type "tuple") (hd : o.data = .seq items n) :
    Meets (Builtin.«enumerate.__new__» ⟨[.type "enumerate", .ref l], []⟩) (fun _ R s => s.heap.get? l = some o ∧
      R (.ok (.ret (.ref (s.heap.push { cls := .type "tuple_iterator", data := .fields #[.ref l, .int 0 0] }).objs.size)))
        { s with heap := (s.heap.push { cls := .type "tuple_iterator", data := .fields #[.ref l, .int 0 0] }).push { cls := .type "enumerate", data := .fields #[.none, .bool false, .ref s.heap.objs.size, rawInt 0, .none, .none] } }) :=
  .of_wp fun prog w A R s h => by
    obtain ⟨hp, g, d, tk, os⟩ := s
    obtain ⟨hl, h⟩ := h
    have hsub := sub_enumerate
    have hL : Heap.IsTuple (Shared.heap ⟨hp, g, d, tk, os⟩) l items := ⟨_, hl, hc, n, hd⟩
    wp_walk using wpAny_loadPart' hl
    refine wpAny_stack_any fun st => wpAny_pure ?_
    split
    · rename_i c _ _ _ _ _
      cases (c == Value.type "enumerate")
      · wp_walk using wpAny_loadPart' hl, wpAny_pyIter_tuple hL
        exact ⟨_, rfl, h⟩
      · wp_walk using wpAny_loadPart' hl, wpAny_pyIter_tuple hL
        exact ⟨_, rfl, h⟩
    · wp_walk using wpAny_loadPart' hl, wpAny_pyIter_tuple hL
      exact ⟨_, rfl, h⟩
section
variable {prog : Program} {w : World} {A : Around} {E : Value → Shared → Prop} {s : Shared}
theorem call_enumT {l : Addr} {items : Array Value} {Q : Value → Shared → Prop} (hL : s.heap.IsTuple l items)
    (h : ∀ h', IsEnum h' (s.heap.objs.size + 1) s.heap.objs.size 0 .none → h'.IsTupleIter s.heap.objs.size l 0 →
      (∀ b o, s.heap.get? b = some o → h'.get? b = some o) → Q (.ref (s.heap.objs.size + 1)) { s with heap := h' }) :
    wpAny (model prog w) A (call (.type "enumerate") [.ref l]) Q E s := by
  obtain ⟨o, hl, hc, n, hd⟩ := hL
  refine callType_new F.called_enumerate (by decide) (F.typeCall_enumerate_1 _) (F.newCall_enumerate_1 _)
    (fun obj => F.args_object_init_2 obj _) F.entry_enumerate_new (meets_enum_newT l o items n hc hd) ⟨hl, ?_⟩
  have hz : (s.heap.push { cls := .type "tuple_iterator", data := .fields #[.ref l, .int 0 0] }).objs.size = s.heap.objs.size + 1 := Heap.size_push ..
  show _ ∧ _
  rw [hz]
  have he : IsEnum ((s.heap.push { cls := .type "tuple_iterator", data := .fields #[.ref l, .int 0 0] }).push
      { cls := .type "enumerate", data := .fields #[.none, .bool false, .ref s.heap.objs.size, rawInt 0, .none, .none] }) (s.heap.objs.size + 1) s.heap.objs.size 0 .none := by
    have z := Heap.get?_push_size (s.heap.push { cls := .type "tuple_iterator", data := .fields #[.ref l, .int 0 0] })
      (o := { cls := .type "enumerate", data := .fields #[.none, .bool false, .ref s.heap.objs.size, rawInt 0, .none, .none] }) rfl
    rw [hz] at z
    exact z
  exact ⟨⟨_, he, rfl⟩, h _ he ⟨_, Heap.get?_push_of_some _ (Heap.get?_push_size _ rfl), rfl, rfl⟩ fun b o x => Heap.get?_push_of_some _ (Heap.get?_push_of_some _ x)⟩
end
end PySem
namespace Ns
open PySem PySem.Spec PyProof.Rows L2
/-- the tuple at a, each item in a new pair -/
def IteT (K : PySem.W.Frag) (a : Addr) : It :=
  ⟨fun i H => ∃ (xs : List V) (x : V), SqT K H a xs ∧ xs[i]? = some x, fun i H v H' => ∃ T x, v = .ref T ∧ H T = none ∧ H' = upd H T (.tup [.int (i : Nat), x]) ∧ ∀ xs, SqT K H a xs → xs[i]? = some x, fun i H => ∃ xs : List V, SqT K H a xs ∧ xs.length ≤ i⟩
theorem tuple_ne {h : Heap} {a b : Addr} {o : Obj} {its : Array Value} (t : h.IsTuple a its) (e : h.get? b = some o) (n : o.cls ≠ .type "tuple") : a ≠ b := by
  obtain ⟨o', ho, hc, _⟩ := t
  intro z
  rw [z, e] at ho
  cases ho
  exact n hc
theorem turn_enumT {P : Program} {w : World} {K : PySem.W.Frag} {elts : List Expr} {kk : Nat} {tpos : Pos} (a e it : Addr) :
    Turn P w K (.Tuple elts kk tpos) (IteT K a) [e, it] e (fun i h => (∃ old, IsEnum h e it ((i : Nat) : Int) old) ∧ h.IsTupleIter it a i ∧ e ≠ it) where
  mem := by simp
  obj := fun i h st b hb => by
    obtain ⟨⟨old, he⟩, ⟨o, ho, hc, hd⟩, _⟩ := st
    have e' : b = e ∨ b = it := by simpa using hb
    rcases e' with z | z
    · rw [z]; exact ⟨_, he, fun v q => nomatch q⟩
    · rw [z]; exact ⟨o, ho, fun v q => by rw [hd] at q; cases q⟩
  keep := fun i h h' st k => by
    obtain ⟨⟨old, he⟩, hi, hne⟩ := st
    exact ⟨⟨old, k e (by simp) _ he⟩, hi.at (fun o q => k it (by simp) o q), hne⟩
  item := by
    intro X hP hw hK hc i pins s σ H E I hf st hg
    subst hP hw hK
    obtain ⟨⟨old, he⟩, hit, hne⟩ := st
    obtain ⟨xs, x, hq, hx⟩ := hg
    obtain ⟨its, rv, p, hz⟩ := I.tuple hq
    have p : s.heap.IsTuple a its.toArray := p
    obtain ⟨u, hu, ru⟩ := rv.get hx
    have hel : e < s.heap.objs.size := Heap.lt_size he
    obtain ⟨oi, hoi, hci, _⟩ := id hit
    have hil : it < s.heap.objs.size := Heap.lt_size hoi
    have ne1 : a ≠ it := tuple_ne p hoi (by rw [hci]; decide)
    have ne2 : a ≠ e := tuple_ne p he (by intro z; exact absurd (Value.type.inj z) (by decide))
    refine wpAny_pyNext_enum_itemD (Draws.tuple (A := X.A.in1) (I.ok.hd hc) it a ne1 its.toArray) he ⟨hit, p⟩ ?_ hne ?_ ?_
    · have := (List.getElem?_eq_some_iff.mp hu).1
      simpa using this
    · simp only [List.mem_cons, List.not_mem_nil, or_false, not_or]
      exact ⟨hne, ne2.symm⟩
    · intro y h' tk hy ho hst' hT hsz hk
      have ey : y = u := by
        have h1 : its[i]? = some y := by simpa using hy
        rw [hu] at h1
        exact (Option.some.inj h1).symm
      subst ey
      refine ⟨_, rfl, wpAny_letOwnedTupleGo_enum (s := { s with heap := h', toks := tk + 1 }) ho fun h'' he' sb => ?_⟩
      have hT2 : h''.get? s.heap.objs.size = some { cls := .type "tuple", data := .seq #[.int i tk, y] } := (sb.2 _ (Nat.ne_of_gt hel)).trans hT
      have new : ObjOk X.prog X.w (upd H s.heap.objs.size (.tup [.int (i : Nat), x])) h'' s.heap.objs.size (.tup [.int (i : Nat), x]) :=
        ⟨by show 2 ≤ sizeLine; decide, [.int i tk, y], .cons ⟨_, rfl⟩ (.cons ru .nil), ⟨_, hT2, rfl, _, rfl⟩⟩
      have I1 : Inv X pins σ (upd H s.heap.objs.size (.tup [.int (i : Nat), x])) { s with heap := h'', toks := tk + 1 } := by
        refine I.turnedNew (ch := [e, it]) (fun b ob hb q => ?_) hf (Nat.le_refl _) new
        have n1 : b ≠ e := fun z => hb (by simp [z])
        have n2 : b ≠ it := fun z => hb (by simp [z])
        exact (sb.2 b n1).trans (hk b ob n1 n2 q)
      refine ⟨.ref s.heap.objs.size, _, I1, rfl, ⟨_, x, rfl, I.hok.fresh (Nat.le_refl _), rfl, fun ys hy => by rw [I.tuple_inj hy hq]; exact hx⟩, ⟨⟨y, ?_⟩, hst'.1.at (fun o q => (sb.2 it (Ne.symm hne)).trans q), hne⟩, fun b hb => ?_⟩
      · have e1 : ((i + 1 : Nat) : Int) = (i : Int) + 1 := by omega
        rw [e1]
        exact he'
      · have hb' : b < s.heap.objs.size := by
          have e' : b = e ∨ b = it := by simpa using hb
          rcases e' with z | z
          · rw [z]; exact hel
          · rw [z]; exact hil
        rw [upd_ne (Nat.ne_of_lt hb')]
        exact (hf b hb).1
  done := by
    intro X hP hw hK hc i pins s σ H E I hf st hg
    subst hP hw hK
    obtain ⟨⟨old, he⟩, hit, hne⟩ := st
    obtain ⟨xs, hq, hx⟩ := hg
    obtain ⟨its, rv, p, hz⟩ := I.tuple hq
    have p : s.heap.IsTuple a its.toArray := p
    obtain ⟨f0, f1, f2, f3, f4, f5⟩ := hf it (by simp)
    have hl := rv.length
    obtain ⟨oi, hoi, hci, _⟩ := id hit
    have ne1 : a ≠ it := tuple_ne p hoi (by rw [hci]; decide)
    have D : Draws X.prog X.w X.A.in1 it [it, a] 0 (fun _ _ => True) (fun _ h => h.IsTupleIter it a i ∧ h.IsTuple a its.toArray) := by
      refine ⟨fun j h st => ?_, fun j h h' st hk => ?_, fun j s' Q E' hj st hQ => absurd hj (Nat.not_lt_zero j), fun s' Q E' st hE => ?_⟩
      · obtain ⟨o, ho, _⟩ := st.1
        exact ⟨o, ho⟩
      · exact ⟨st.1.at fun o e => hk it (by simp) o e, st.2.at fun o e => hk a (by simp) o e⟩
      · exact wpAny_nextOf_tuple_end (I.ok.hd hc) st.1 st.2 (by simp; omega) hE
    exact wpAny_pyNext_enum_endD D he ⟨hit, p⟩ fun h' eb => ⟨rfl, I.turned (t' := s.toks) (fun b o hb q => eb b o hb q) f0 f1 f3 f4 f5⟩
  self := fun A i s Q E st h => by
    obtain ⟨⟨_, he⟩, _⟩ := st
    exact wpAny_pyIter_enum he h
def iEnumT (K : PySem.W.Frag) (ta : TA) : TI := fun σ H R => ta σ H fun vs H1 => ∃ a xs, vs = [.ref a] ∧ SqT K H1 a xs ∧ R (IteT K a) H1
theorem pi_enumTK {X : Cx} {K : PySem.W.Frag} {e : Expr} {ta : TA} {p pos tpos : Pos} {elts : List Expr} {kk : Nat} (hK : X.K = K) (hg : Gl X "enumerate") (hm : X.mg "enumerate" = none) (ha : PA X [e] ta) (hs : starEach [e] X.env = [(false, eval e X.env)] := by rfl) :
    PI X (.Tuple elts kk tpos) (.Call (.Name "enumerate" p) [e] [] pos) (iEnumT K ta) := by
  subst hK
  refine ⟨fun pins s σ H R I h => ?_⟩
  refine Call_ (ld_blt I hg hm boot_enumerate (PyProof.Rows.callWith_type1 (thn (ha.run pos pins s σ H _ I h) fun us s1 ⟨vs, H1, I1, r1, q1⟩ => ?_) hs rfl))
  obtain ⟨a, xs, ex, hq, q⟩ := q1
  subst ex
  cases r1 with
  | cons r rr =>
    cases rr
    cases r
    obtain ⟨its, rv, p', hz⟩ := I1.tuple hq
    refine call_enumT (show s1.heap.IsTuple a its.toArray from p') fun h' he hit hk => wpAny_pyIter_enum he ?_
    have I2 : Inv X pins σ H1 { s1 with heap := h' } := I1.kept (t' := s1.toks) hk
    refine ⟨s1.heap.objs.size + 1, [s1.heap.objs.size + 1, s1.heap.objs.size], _, _, H1, rfl, I2, turn_enumT a (s1.heap.objs.size + 1) s1.heap.objs.size, ⟨⟨.none, he⟩, hit, Nat.succ_ne_self _⟩, fun b hb => ?_, q⟩
    have hle : s1.heap.objs.size ≤ b := by
      have e' : b = s1.heap.objs.size + 1 ∨ b = s1.heap.objs.size := by simpa using hb
      rcases e' with z | z
      · rw [z]; exact Nat.le_add_right _ _
      · rw [z]; exact Nat.le_refl _
    exact I1.fpOk hle (I1.hok.fresh hle)
theorem walk_enumT {K : PySem.W.Frag} {a : Addr} {xs : List V} : Walk (IteT K a) xs.length (fun H => SqT K H a xs) (YPair (fun i => some (.int (i : Nat))) (fun i => xs[i]?)) := by
  refine ⟨fun i _ hi q => ⟨xs, xs[i], q, by simp [hi]⟩, fun _ q => ⟨xs, q, Nat.le_refl _⟩, fun i H v H' _ q y => ?_⟩
  obtain ⟨T, x, h1, h2, h3, h4⟩ := y
  exact ⟨T, .int (i : Nat), x, h1, h2, h3, rfl, h4 xs q⟩
end Ns
/-! Own layer W: neighbours, in plain Lean and in the heap. -/
namespace Ns
open PySem PySem.Spec PyProof.Rows L2
def nbL (n : Nat) (T : Tm) (x : Nat) : List Nat := (List.range n).filter fun y => T x y
theorem mem_nbL {n : Nat} {T : Tm} {x y : Nat} : y ∈ nbL n T x ↔ y < n ∧ T x y = true := by
  unfold nbL
  rw [List.mem_filter, List.mem_range]
def accL (ties : List (Nat × Nat)) (x : Nat) : List Nat := ties.flatMap fun p => (if p.1 = x then [p.2] else []) ++ (if p.2 = x then [p.1] else [])
theorem mem_accL {ties : List (Nat × Nat)} {x y : Nat} : y ∈ accL ties x ↔ (x, y) ∈ ties ∨ (y, x) ∈ ties := by
  unfold accL
  rw [List.mem_flatMap]
  constructor
  · rintro ⟨⟨a, b⟩, hp, h⟩
    rcases List.mem_append.mp h with h | h
    · by_cases e : a = x
      · rw [if_pos e] at h
        rw [List.mem_singleton.mp h, ← e]
        exact .inl hp
      · rw [if_neg e] at h
        cases h
    · by_cases e : b = x
      · rw [if_pos e] at h
        rw [List.mem_singleton.mp h, ← e]
        exact .inr hp
      · rw [if_neg e] at h
        cases h
  · rintro (h | h)
    · exact ⟨(x, y), h, List.mem_append.mpr (.inl (by rw [if_pos rfl]; exact List.mem_singleton.mpr rfl))⟩
    · exact ⟨(y, x), h, List.mem_append.mpr (.inr (by rw [if_pos rfl]; exact List.mem_singleton.mpr rfl))⟩
theorem accL_nodup (x : Nat) : ∀ {ties : List (Nat × Nat)}, ties.Nodup → (∀ p ∈ ties, p.1 < p.2) → (accL ties x).Nodup
  | [], _, _ => .nil
  | (a, b) :: r, hn, hl => by
    have hn := List.nodup_cons.mp hn
    have hab : a < b := hl (a, b) (List.mem_cons_self ..)
    have ih := accL_nodup x hn.2 fun p hp => hl p (List.mem_cons_of_mem _ hp)
    have e : accL ((a, b) :: r) x = ((if a = x then [b] else []) ++ (if b = x then [a] else [])) ++ accL r x := rfl
    rw [e]
    by_cases h1 : a = x
    · have h2 : b ≠ x := by omega
      rw [if_pos h1, if_neg h2]
      refine List.nodup_cons.mpr ⟨fun h => ?_, ih⟩
      have h : b ∈ accL r x := h
      rcases mem_accL.mp h with h | h
      · exact hn.1 (by rw [h1]; exact h)
      · have := hl _ (List.mem_cons_of_mem _ h)
        dsimp only at this
        omega
    · rw [if_neg h1]
      by_cases h2 : b = x
      · rw [if_pos h2]
        refine List.nodup_cons.mpr ⟨fun h => ?_, ih⟩
        have h : a ∈ accL r x := h
        rcases mem_accL.mp h with h | h
        · have := hl _ (List.mem_cons_of_mem _ h)
          dsimp only at this
          omega
        · exact hn.1 (by rw [h2]; exact h)
      · rw [if_neg h2]
        exact ih
theorem accL_snoc (ties : List (Nat × Nat)) (p : Nat × Nat) (x : Nat) : accL (ties ++ [p]) x = accL ties x ++ ((if p.1 = x then [p.2] else []) ++ (if p.2 = x then [p.1] else [])) := by
  unfold accL
  rw [List.flatMap_append]
  simp
theorem sorted_uniq : ∀ {as bs : List Int}, as.Pairwise (· < ·) → bs.Pairwise (· < ·) → (∀ k, k ∈ as ↔ k ∈ bs) → as = bs
  | [], [], _, _, _ => rfl
  | [], b :: bs, _, _, h => absurd ((h b).mpr (List.mem_cons_self ..)) List.not_mem_nil
  | a :: as, [], _, _, h => absurd ((h a).mp (List.mem_cons_self ..)) List.not_mem_nil
  | a :: as, b :: bs, ha, hb, h => by
    have ha := List.pairwise_cons.mp ha
    have hb := List.pairwise_cons.mp hb
    have e : a = b := by
      rcases List.mem_cons.mp ((h a).mp (List.mem_cons_self ..)) with e | e
      · exact e
      · rcases List.mem_cons.mp ((h b).mpr (List.mem_cons_self ..)) with e2 | e2
        · exact e2.symm
        · have := ha.1 b e2
          have := hb.1 a e
          omega
    subst e
    rw [sorted_uniq ha.2 hb.2 fun k => ?_]
    constructor
    · intro hk
      rcases List.mem_cons.mp ((h k).mp (List.mem_cons_of_mem _ hk)) with e | e
      · have := ha.1 k hk
        omega
      · exact e
    · intro hk
      rcases List.mem_cons.mp ((h k).mpr (List.mem_cons_of_mem _ hk)) with e | e
      · have := hb.1 k hk
        omega
      · exact e
/-- what sorted makes of unlike ints with given members -/
theorem sorted_is {as : List Int} {xs bs : List Nat} (pm : as.Perm (xs.map fun x : Nat => (x : Int))) (so : as.Pairwise (· ≤ ·)) (nd : xs.Nodup) (hb : bs.Pairwise (· < ·)) (h : ∀ k, k ∈ xs ↔ k ∈ bs) : as = bs.map fun x : Nat => (x : Int) := by
  have nda : as.Nodup := pm.nodup_iff.mpr (by
    rw [List.Nodup, List.pairwise_map]
    exact nd.imp fun {a b} h e => h (by omega))
  have sa : as.Pairwise (· < ·) := (so.and nda).imp fun {a b} h => by
    have h1 := h.1
    have h2 := h.2
    omega
  have sb : (bs.map fun x : Nat => (x : Int)).Pairwise (· < ·) := by
    rw [List.pairwise_map]
    exact hb.imp fun {a b} h => by omega
  refine sorted_uniq sa sb fun k => ?_
  rw [pm.mem_iff, List.mem_map, List.mem_map]
  exact ⟨fun ⟨a, ha, e⟩ => ⟨a, (h a).mp ha, e⟩, fun ⟨a, ha, e⟩ => ⟨a, (h a).mpr ha, e⟩⟩
theorem range_lt (n : Nat) : (List.range n).Pairwise (· < ·) := List.pairwise_lt_range
theorem nbL_sorted (n : Nat) (T : Tm) (x : Nat) : (nbL n T x).Pairwise (· < ·) := (range_lt n).filter _
theorem cr_sortedIK {X : Cx} {K : PySem.W.Frag} (hK : X.K = K) : CallR X (.builtin "sorted") (rSortedI K) := by
  subst hK
  exact cr_sortedI
/-- lists of points -/
structure LN (H : Hp) (m : Addr) (rows : List Addr) (ls : List (List Nat)) : Prop where
  top : H m = some (.lst (rows.map V.ref))
  nd : rows.Nodup
  ne : m ∉ rows
  pr : Paired (fun a l => H a = some (.lst (l.map pI))) rows ls
theorem LN.same {H H' : Hp} {m : Addr} {rows : List Addr} {ls : List (List Nat)} (x : LN H m rows ls) (k : Same H H') : LN H' m rows ls := by
  refine ⟨k _ _ x.top, x.nd, x.ne, ?_⟩
  have h := x.pr
  clear x
  induction h with
  | nil => exact .nil
  | cons a b ih => exact .cons (k _ _ a) ih
theorem LN.at_ {H : Hp} {m : Addr} {rows : List Addr} {ls : List (List Nat)} (x : LN H m rows ls) {i : Nat} {l : List Nat} (h : ls[i]? = some l) : ∃ a, rows[i]? = some a ∧ H a = some (.lst (l.map pI)) := by
  obtain ⟨a, ha, h2⟩ := pAt x.pr h
  exact ⟨a, ha, h2⟩
theorem paired_set {H : Hp} {a : Addr} {l' : List Nat} : ∀ {rows : List Addr} {ls : List (List Nat)} {i : Nat}, rows.Nodup → Paired (fun a l => H a = some (.lst (l.map pI))) rows ls → rows[i]? = some a →
    Paired (fun b l => (upd H a (.lst (l'.map pI))) b = some (.lst (l.map pI))) rows (ls.set i l')
  | [], [], i, _, .nil, h => by cases h
  | b :: rows, l :: ls, 0, hn, .cons h1 h2, h => by
    have e : b = a := Option.some.inj h
    subst e
    refine .cons upd_same ?_
    have hn2 := (List.nodup_cons.mp hn).1
    clear h h1 hn
    induction h2 with
    | nil => exact .nil
    | cons x y ih =>
      simp only [List.mem_cons, not_or] at hn2
      refine .cons ?_ (ih hn2.2)
      rw [upd_ne (fun e => hn2.1 e.symm)]
      exact x
  | b :: rows, l :: ls, i + 1, hn, .cons h1 h2, h => by
    have hn := List.nodup_cons.mp hn
    have hm : a ∈ rows := List.mem_of_getElem? (i := i) h
    refine .cons ?_ (paired_set hn.2 h2 h)
    rw [upd_ne (fun e => hn.1 (by rw [e]; exact hm))]
    exact h1
theorem LN.put {H : Hp} {m a : Addr} {rows : List Addr} {ls : List (List Nat)} {i : Nat} {l' : List Nat} (x : LN H m rows ls) (ha : rows[i]? = some a) : LN (upd H a (.lst (l'.map pI))) m rows (ls.set i l') ∧ Out rows H (upd H a (.lst (l'.map pI))) := by
  have hm : a ∈ rows := List.mem_of_getElem? ha
  refine ⟨⟨?_, x.nd, x.ne, paired_set x.nd x.pr ha⟩, fun b o h hb => ?_⟩
  · rw [upd_ne (fun e => x.ne (by rw [e]; exact hm))]
    exact x.top
  · rw [upd_ne (fun e => hb (by rw [e]; exact hm))]
    exact h
/-- the neighbours of all points -/
def Adj (H : Hp) (m : Addr) (n : Nat) (T : Tm) : Prop := ∃ rows, LN H m rows ((List.range n).map (nbL n T))
theorem Adj.same {H H' : Hp} {m : Addr} {n : Nat} {T : Tm} (x : Adj H m n T) (k : Same H H') : Adj H' m n T := by
  obtain ⟨rows, h⟩ := x
  exact ⟨rows, h.same k⟩
theorem Adj.top {H : Hp} {m : Addr} {n : Nat} {T : Tm} (x : Adj H m n T) : ∃ us, H m = some (.lst us) ∧ us.length = n := by
  obtain ⟨rows, h⟩ := x
  refine ⟨_, h.top, ?_⟩
  have := h.pr.length
  simpa using this
/-- the same, the neighbours known at an earlier heap -/
theorem rdA2 {K : PySem.W.Frag} {H H' : Hp} {m : Addr} {n x : Nat} {T : Tm} {σ : L2.St} {Q : VK} {i j : Nat} (A : Adj H m n T) (s : Same H H') (hm : σ[i]? = some (some (.ref m))) (hx : σ[j]? = some (some (.int (x : Int)))) (lx : x < n)
    (q : ∀ a, H a = some (.lst ((nbL n T x).map pI)) → Q (.ref a) H') : tOp (rIxL K) (tVar i) (tVar j) σ H' Q := by
  obtain ⟨rows, h⟩ := A
  obtain ⟨a, ha, hr⟩ := h.at_ (i := x) (l := nbL n T x) (by simp [lx])
  refine ⟨_, hm, _, hx, _, _, _, .ref a, rfl, rfl, SqL.of (s _ _ h.top), atI_nat (j := x) ?_, q a hr⟩
  rw [List.getElem?_map, ha]
  rfl
end Ns
/-! Own layer Y: growing out of a point by rounds, in plain Lean. -/
namespace Ns
open PySem PySem.Spec PyProof.Rows L2
/-- a point, from where it was reached, and how far it is -/
abbrev Ent := Nat × Option Nat × Nat
structure BfsW (n : Nat) (T : Tm) (sh : Nat → Bool) (start : Nat) (S : List Ent) : Prop where
  nd : (S.map (·.1)).Nodup
  st : (start, none, 0) ∈ S
  lt : ∀ e ∈ S, e.1 < n
  par : ∀ e ∈ S, e = (start, none, 0) ∨ ∃ x px d, e = (e.1, some x, d + 1) ∧ T x e.1 = true ∧ sh e.1 = false ∧ (x, px, d) ∈ S
structure Bfs (n : Nat) (T : Tm) (sh : Nat → Bool) (start : Nat) (S : List Ent) : Prop extends BfsW n T sh start S where
  closed : ∀ x px d y, (x, px, d) ∈ S → T x y = true → y < n → sh y = false → ∃ py e, (y, py, e) ∈ S ∧ e ≤ d + 1
/-- within a round: the points of `now` at depth d, of which those in A are done; what was found for the next round -/
structure Mid (n : Nat) (T : Tm) (sh : Nat → Bool) (start d : Nat) (now later : List Nat) (A : List Nat) (S : List Ent) : Prop extends BfsW n T sh start S where
  deep : ∀ e ∈ S, e.2.2 ≤ d + 1
  nowS : ∀ x, x ∈ now ↔ ∃ px, (x, px, d) ∈ S
  latS : ∀ x, x ∈ later ↔ ∃ px, (x, px, d + 1) ∈ S
  cls : ∀ x px dx y, (x, px, dx) ∈ S → (dx < d ∨ x ∈ A) → dx ≤ d → T x y = true → y < n → sh y = false → ∃ py e, (y, py, e) ∈ S ∧ e ≤ dx + 1
theorem ent_uniq {S : List Ent} (h : (S.map (·.1)).Nodup) {a b : Ent} (ha : a ∈ S) (hb : b ∈ S) (e : a.1 = b.1) : a = b := by
  obtain ⟨i, hi, ei⟩ := List.mem_iff_getElem.mp ha
  obtain ⟨j, hj, ej⟩ := List.mem_iff_getElem.mp hb
  have h1 : (S.map (·.1))[i]? = some a.1 := by rw [List.getElem?_map, List.getElem?_eq_getElem hi, ei]; rfl
  have h2 : (S.map (·.1))[j]? = some b.1 := by rw [List.getElem?_map, List.getElem?_eq_getElem hj, ej]; rfl
  have h3 := (List.getElem?_inj (by simpa using hi) h).mp (h1.trans (by rw [h2, e]))
  subst h3
  rw [← ei, ← ej]
theorem bfs_len {n : Nat} {T : Tm} {sh : Nat → Bool} {start : Nat} {S : List Ent} (B : BfsW n T sh start S) : S.length ≤ n := by
  have h := sub_len (S.map (·.1)) (List.range n) B.nd fun x hx => by
    obtain ⟨e, he, rfl⟩ := List.mem_map.mp hx
    exact List.mem_range.mpr (B.lt e he)
  rw [List.length_map, List.length_range] at h
  exact h
theorem mid_start {n : Nat} {T : Tm} {sh : Nat → Bool} {start : Nat} (h : start < n) : Mid n T sh start 0 [start] [] [] [(start, none, 0)] := by
  refine ⟨⟨by simp, by simp, fun e he => ?_, fun e he => .inl (List.mem_singleton.mp he)⟩, fun e he => ?_, fun x => ?_, fun x => ?_, fun x px dx y hx hd _ _ _ _ => ?_⟩
  · rw [List.mem_singleton.mp he]; exact h
  · rw [List.mem_singleton.mp he]; exact Nat.zero_le _
  · constructor
    · intro hx
      rw [List.mem_singleton.mp hx]
      exact ⟨none, List.mem_singleton.mpr rfl⟩
    · rintro ⟨px, hx⟩
      have e := List.mem_singleton.mp hx
      exact List.mem_singleton.mpr (congrArg (·.1) e)
  · constructor
    · intro hx; cases hx
    · rintro ⟨px, hx⟩
      have e := List.mem_singleton.mp hx
      have := congrArg (fun z : Ent => z.2.2) e
      simp at this
  · rcases hd with hd | hd
    · omega
    · cases hd
/-- a new point -/
theorem mid_add {n : Nat} {T : Tm} {sh : Nat → Bool} {start d : Nat} {now later A : List Nat} {S : List Ent} (M : Mid n T sh start d now later A S) {x y : Nat} (hx : x ∈ now) (hy : y < n) (t : T x y = true) (hs : sh y = false) (hn : y ∉ S.map (·.1)) :
    Mid n T sh start d now (later ++ [y]) A (S ++ [(y, some x, d + 1)]) := by
  obtain ⟨px, hpx⟩ := (M.nowS x).mp hx
  refine ⟨⟨?_, List.mem_append.mpr (.inl M.st), fun e he => ?_, fun e he => ?_⟩, fun e he => ?_, fun z => ?_, fun z => ?_, fun z pz dz u hz hd hdz tu hu su => ?_⟩
  · rw [List.map_append]
    refine List.nodup_append.mpr ⟨M.nd, by simp, fun a ha b hb e => hn ?_⟩
    rw [List.map_singleton, List.mem_singleton] at hb
    have hb : b = y := hb
    rw [← hb, ← e]
    exact ha
  · rcases List.mem_append.mp he with he | he
    · exact M.lt e he
    · rw [List.mem_singleton.mp he]; exact hy
  · rcases List.mem_append.mp he with he | he
    · rcases M.par e he with h | ⟨a, pa, da, h1, h2, h3, h4⟩
      · exact .inl h
      · exact .inr ⟨a, pa, da, h1, h2, h3, List.mem_append.mpr (.inl h4)⟩
    · have e2 := List.mem_singleton.mp he
      subst e2
      exact .inr ⟨x, px, d, rfl, t, hs, List.mem_append.mpr (.inl hpx)⟩
  · rcases List.mem_append.mp he with he | he
    · exact M.deep e he
    · rw [List.mem_singleton.mp he]; exact Nat.le_refl _
  · rw [M.nowS z]
    constructor
    · rintro ⟨pz, hz⟩
      exact ⟨pz, List.mem_append.mpr (.inl hz)⟩
    · rintro ⟨pz, hz⟩
      rcases List.mem_append.mp hz with hz | hz
      · exact ⟨pz, hz⟩
      · have e := congrArg (fun z : Ent => z.2.2) (List.mem_singleton.mp hz)
        dsimp only at e
        omega
  · rw [List.mem_append, M.latS z, List.mem_singleton]
    constructor
    · rintro (⟨pz, hz⟩ | rfl)
      · exact ⟨pz, List.mem_append.mpr (.inl hz)⟩
      · exact ⟨some x, List.mem_append.mpr (.inr (List.mem_singleton.mpr rfl))⟩
    · rintro ⟨pz, hz⟩
      rcases List.mem_append.mp hz with hz | hz
      · exact .inl ⟨pz, hz⟩
      · exact .inr (congrArg (·.1) (List.mem_singleton.mp hz))
  · rcases List.mem_append.mp hz with hz | hz
    · obtain ⟨py, e, he, hle⟩ := M.cls z pz dz u hz hd hdz tu hu su
      exact ⟨py, e, List.mem_append.mpr (.inl he), hle⟩
    · have e := congrArg (fun z : Ent => z.2.2) (List.mem_singleton.mp hz)
      dsimp only at e
      omega
/-- a point is done -/
theorem mid_done {n : Nat} {T : Tm} {sh : Nat → Bool} {start d : Nat} {now later A : List Nat} {S : List Ent} (M : Mid n T sh start d now later A S) {x : Nat} (h : ∀ y ∈ nbL n T x, sh y = true ∨ y ∈ S.map (·.1)) : Mid n T sh start d now later (A ++ [x]) S := by
  refine ⟨M.toBfsW, M.deep, M.nowS, M.latS, fun z pz dz u hz hd hdz tu hu su => ?_⟩
  by_cases e : z = x ∧ dz = d
  · obtain ⟨rfl, rfl⟩ := e
    rcases h u (mem_nbL.mpr ⟨hu, tu⟩) with h1 | h1
    · rw [su] at h1; cases h1
    · obtain ⟨e, he, rfl⟩ := List.mem_map.mp h1
      obtain ⟨e1, e2, e3⟩ := e
      exact ⟨e2, e3, he, M.deep _ he⟩
  · refine M.cls z pz dz u hz ?_ hdz tu hu su
    rcases hd with hd | hd
    · exact .inl hd
    · rcases List.mem_append.mp hd with hd | hd
      · exact .inr hd
      · have : z = x := List.mem_singleton.mp hd
        exact .inl (by
          have : dz ≠ d := fun h => e ⟨this, h⟩
          omega)
/-- the next round -/
theorem mid_next {n : Nat} {T : Tm} {sh : Nat → Bool} {start d : Nat} {now later : List Nat} {S : List Ent} (M : Mid n T sh start d now later now S) : Mid n T sh start (d + 1) later [] [] S := by
  refine ⟨M.toBfsW, fun e he => Nat.le_succ_of_le (M.deep e he), M.latS, fun x => ?_, fun z pz dz u hz hd hdz tu hu su => ?_⟩
  · constructor
    · intro h; cases h
    · rintro ⟨px, hx⟩
      have := M.deep _ hx
      dsimp only at this
      omega
  · have hd : dz < d + 1 := by
      rcases hd with hd | hd
      · exact hd
      · cases hd
    refine M.cls z pz dz u hz ?_ (by omega) tu hu su
    by_cases e : dz < d
    · exact .inl e
    · have e2 : dz = d := by omega
      subst e2
      exact .inr ((M.nowS z).mpr ⟨pz, hz⟩)
/-- nothing was found -/
theorem mid_end {n : Nat} {T : Tm} {sh : Nat → Bool} {start d : Nat} {later A : List Nat} {S : List Ent} (M : Mid n T sh start d [] later A S) (h : later = []) : Bfs n T sh start S := by
  refine ⟨M.toBfsW, fun x px dx y hx t hy hs => ?_⟩
  have h1 := M.deep _ hx
  dsimp only at h1
  have h2 : dx ≠ d := fun e => by
    subst e
    have := (M.nowS x).mpr ⟨px, hx⟩
    cases this
  have h3 : dx ≠ d + 1 := fun e => by
    subst e
    have := (M.latS x).mpr ⟨px, hx⟩
    rw [h] at this
    cases this
  exact M.cls x px dx y hx (.inl (by omega)) (by omega) t hy hs
/-! ### entries in a dict -/
def entK (g : Ent → V) (S : List Ent) : List (Key × V) := S.map fun e => (.inl (e.1 : Int), g e)
theorem ent_some (g : Ent → V) (y : Nat) : ∀ S : List Ent, (valV (entK g S) (.inl (y : Int))).isSome = decide (y ∈ S.map (·.1))
  | [] => rfl
  | e :: S => by
    have ih := ent_some g y S
    unfold entK at *
    rw [List.map_cons]
    by_cases h : e.1 = y
    · rw [valV_pos (by rw [h])]
      exact (decide_eq_true (by rw [List.map_cons, h]; exact List.mem_cons_self ..)).symm
    · rw [valV_neg (fun z => h (by have := Sum.inl.inj z; omega)), ih]
      refine decide_eq_decide.mpr ?_
      rw [List.map_cons, List.mem_cons]
      exact ⟨.inr, fun z => z.resolve_left fun z => h z.symm⟩
theorem ent_val (g : Ent → V) : ∀ {S : List Ent}, (S.map (·.1)).Nodup → ∀ e ∈ S, valV (entK g S) (.inl (e.1 : Int)) = some (g e)
  | [], _, e, h => by cases h
  | a :: S, nd, e, h => by
    have nd := List.nodup_cons.mp nd
    unfold entK
    rw [List.map_cons]
    rcases List.mem_cons.mp h with rfl | h
    · exact valV_pos rfl
    · have hne : a.1 ≠ e.1 := fun z => nd.1 (List.mem_map.mpr ⟨e, h, z.symm⟩)
      rw [valV_neg (fun z => hne (by have := Sum.inl.inj z; omega))]
      exact ent_val g nd.2 e h
theorem ent_put (g : Ent → V) {S : List Ent} {e : Ent} (h : e.1 ∉ S.map (·.1)) : putK (entK g S) (.inl (e.1 : Int)) (g e) = entK g (S ++ [e]) := by
  unfold putK
  have h1 : ((entK g S).any fun kv => decide (kv.1 = (.inl (e.1 : Int) : Key))) = false := by
    rw [List.any_eq_false]
    intro kv hkv
    obtain ⟨a, ha, rfl⟩ := List.mem_map.mp hkv
    simp only [decide_eq_true_eq]
    intro z
    exact h (List.mem_map.mpr ⟨a, ha, by have := Sum.inl.inj z; omega⟩)
  rw [if_neg (by rw [h1]; exact Bool.false_ne_true)]
  unfold entK
  rw [List.map_append]
  rfl
def parV : Option Nat → V
  | none => .non
  | some x => pI x
def befV (e : Ent) : V := parV e.2.1
theorem tru_list {K : PySem.W.Frag} {H : Hp} {p : Addr} {xs : List V} (h : H p = some (.lst xs)) : TruV K (.ref p) H (!xs.isEmpty) := .inl ⟨_, SqL.of h, rfl⟩
end Ns
/-! Own layer K: ways back from a reached point; how far points are, in plain Lean. -/
namespace Ns
open PySem PySem.Spec PyProof.Rows L2
/-- a way back to the start, point by point -/
def TrR (S : List Ent) (R : List Nat) : Prop := R ≠ [] ∧ ∀ k y, R[k]? = some y → (y, R[k + 1]?, R.length - 1 - k) ∈ S
theorem tr_cons {S : List Ent} {y x d : Nat} {r : List Nat} (h : TrR S (x :: r)) (hl : r.length = d) (hy : (y, some x, d + 1) ∈ S) : TrR S (y :: x :: r) := by
  refine ⟨List.cons_ne_nil _ _, fun k z hz => ?_⟩
  match k with
  | 0 =>
    have e : y = z := Option.some.inj hz
    subst e
    show (y, some x, (x :: r).length + 1 - 1 - 0) ∈ S
    rw [List.length_cons, hl]
    exact hy
  | k + 1 =>
    have h2 := h.2 k z hz
    have e : (y :: x :: r).length - 1 - (k + 1) = (x :: r).length - 1 - k := by
      simp only [List.length_cons]
      omega
    rw [e]
    exact h2
theorem tr_ex {n : Nat} {T : Tm} {sh : Nat → Bool} {start : Nat} {S : List Ent} (B : BfsW n T sh start S) : ∀ (d : Nat) (y : Nat) (p : Option Nat), (y, p, d) ∈ S → ∃ r, TrR S (y :: r) ∧ r.length = d
  | d, y, p, h => by
    rcases B.par _ h with e | ⟨x, px, d', e, t, s, hx⟩
    · cases e
      refine ⟨[], ⟨List.cons_ne_nil _ _, fun k z hz => ?_⟩, rfl⟩
      match k with
      | 0 =>
        have e : start = z := Option.some.inj hz
        subst e
        exact h
      | k + 1 => cases hz
    · have ed : d = d' + 1 := congrArg (fun z : Ent => z.2.2) e
      have ep : p = some x := congrArg (fun z : Ent => z.2.1) e
      subst ed
      subst ep
      obtain ⟨r, hr, hl⟩ := tr_ex B d' x px hx
      exact ⟨x :: r, tr_cons hr hl h, by rw [List.length_cons, hl]⟩
  termination_by d => d
theorem tr_nodup {S : List Ent} (nd : (S.map (·.1)).Nodup) {R : List Nat} (h : TrR S R) : R.Nodup := by
  rw [List.Nodup, List.pairwise_iff_getElem]
  intro i j hi hj hij e2
  have h1 := h.2 i R[i] (by simp)
  have h2 := h.2 j R[j] (by simp)
  have := ent_uniq nd h1 h2 e2
  have := congrArg (fun z : Ent => z.2.2) this
  dsimp only at this
  omega
theorem tr_tie {n : Nat} {T : Tm} {sh : Nat → Bool} {start : Nat} {S : List Ent} (B : BfsW n T sh start S) {R : List Nat} (h : TrR S R) {k x y : Nat} (hy : R[k]? = some y) (hx : R[k + 1]? = some x) : T x y = true ∧ sh y = false := by
  have h1 := h.2 k y hy
  rw [hx] at h1
  rcases B.par _ h1 with e | ⟨x', px, d, e, t, s, _⟩
  · cases e
  · have ex : x = x' := Option.some.inj (congrArg (fun z : Ent => z.2.1) e)
    subst ex
    exact ⟨t, s⟩
theorem tr_last {n : Nat} {T : Tm} {sh : Nat → Bool} {start : Nat} {S : List Ent} (B : BfsW n T sh start S) {R : List Nat} (h : TrR S R) : R.getLast? = some start := by
  have hne := h.1
  have hl : R.length - 1 < R.length := by
    have := List.length_pos_iff.mpr hne
    omega
  have h1 := h.2 (R.length - 1) R[R.length - 1] (by simp)
  have e0 : R[R.length - 1 + 1]? = none := List.getElem?_eq_none_iff.mpr (by omega)
  rw [e0] at h1
  rcases B.par _ h1 with e | ⟨x', px, d, e, _⟩
  · rw [List.getLast?_eq_getElem?, List.getElem?_eq_getElem hl]
    exact congrArg some (congrArg (·.1) e)
  · have := congrArg (fun z : Ent => z.2.1) e
    cases this
/-- a way: tied point by point, none shut but the first -/
structure Way (n : Nat) (T : Tm) (sh : Nat → Bool) (P : List Nat) : Prop where
  ne : P ≠ []
  lt : ∀ x ∈ P, x < n
  tie : ∀ k x y, P[k]? = some x → P[k + 1]? = some y → T x y = true ∧ sh y = false
/-- the way told -/
theorem tr_way {n : Nat} {T : Tm} {sh : Nat → Bool} {start : Nat} {S : List Ent} (B : BfsW n T sh start S) {R : List Nat} (h : TrR S R) : Way n T sh R.reverse ∧ R.reverse[0]? = some start := by
  have hl := tr_last B h
  refine ⟨⟨by simpa using h.1, fun x hx => ?_, fun k x y hx hy => ?_⟩, ?_⟩
  · have hx := List.mem_reverse.mp hx
    obtain ⟨k, hk, e⟩ := List.mem_iff_getElem.mp hx
    have := B.lt _ (h.2 k x (by rw [← e]; simp))
    exact this
  · have hk : k + 1 < R.length := by
      have := (List.getElem?_eq_some_iff.mp hy).1
      rwa [List.length_reverse] at this
    rw [List.getElem?_reverse (by omega)] at hx
    rw [List.getElem?_reverse hk] at hy
    have e : R.length - 1 - k = (R.length - 1 - (k + 1)) + 1 := by omega
    rw [e] at hx
    exact tr_tie B h hy hx
  · rw [List.getElem?_reverse (List.length_pos_iff.mpr h.1), Nat.sub_zero, ← List.getLast?_eq_getElem?]
    exact hl
theorem atI_end {α : Type} {xs : List α} {x : α} (h : xs.getLast? = some x) : atI xs (-1) = some x := by
  obtain ⟨l, rfl⟩ := List.getLast?_eq_some_iff.mp h
  have hl : (l ++ [x]).length = l.length + 1 := by simp
  have e : ixN (l ++ [x]).length (-1) = some l.length := by
    unfold ixN
    rw [if_neg (by omega), if_pos (by omega)]
    congr 1
    omega
  unfold atI
  rw [e]
  simp
theorem take_last {xs : List Nat} {k : Nat} (h : k < xs.length) : ((xs.take (k + 1)).map pI).getLast? = some (pI xs[k]) := by
  rw [List.take_add_one, List.getElem?_eq_getElem h, List.map_append]
  simp
end Ns
/-! Own layer: dicts whose keys are points; turns of any walk. -/
namespace Ns
open PySem PySem.Spec PyProof.Rows L2
def remL (l : List Nat) (y : Nat) : List Nat := l.filter fun z => !decide (z = y)
/-- turns of any walk, in the heap alone -/
theorem turns_it {J : It} {n : Nat} {G : Hp → Prop} {Y : Nat → Hp → V → Hp → Prop} (w : Walk J n G Y) {B : V → Hp → (Hp → Prop) → Prop} {Qd : Hp → Prop} {H0 : Hp} (Pv : Nat → Hp → Prop) (h0 : Pv 0 H0) (hG : ∀ i H, i ≤ n → Pv i H → G H)
    (hs : ∀ i x H H', i < n → Pv i H → Y i H x H' → B x H' (Pv (i + 1))) (hd : ∀ H, Pv n H → Qd H) :
    ∃ W : Nat → Nat → Hp → Prop, (∃ m, W 0 m H0) ∧ ∀ i m H, W i m H →
      (J.stop i H ∧ Qd H) ∨ (J.go i H ∧ ∃ Nx : Hp → Prop, (∀ H', Nx H' → ∃ m', m' < m ∧ W (i + 1) m' H') ∧ ∀ x H', J.yld i H x H' → B x H' Nx) := by
  refine ⟨fun i m H => m = n - i ∧ i ≤ n ∧ Pv i H, ⟨n, by simp, Nat.zero_le _, h0⟩, ?_⟩
  rintro i m H ⟨rfl, hi, p⟩
  have q := hG i H hi p
  by_cases hlt : i < n
  · exact .inr ⟨w.goes i H hlt q, Pv (i + 1), fun H' p' => ⟨n - (i + 1), by omega, rfl, hlt, p'⟩, fun x H' y => hs i x H H' hlt p (w.yields i H x H' hlt q y)⟩
  · have e : i = n := by omega
    subst e
    exact .inl ⟨w.stops H q, hd H p⟩
theorem remLW_mem {l : List Nat} {y z : Nat} : z ∈ remL l y ↔ z ∈ l ∧ z ≠ y := by
  unfold remL
  rw [List.mem_filter]
  simp
/-- points, each there -/
def ldK (L : List Nat) : List (Key × V) := L.map fun x : Nat => (.inl (x : Int), .bl true)
theorem ldK_len (L : List Nat) : (ldK L).length = L.length := by unfold ldK; rw [List.length_map]
theorem ldK_has (L : List Nat) (y : Nat) : (valV (ldK L) (.inl (y : Int))).isSome = decide (y ∈ L) := by
  rw [← valV_any]
  unfold ldK
  rw [Bool.eq_iff_iff, List.any_eq_true, decide_eq_true_eq]
  constructor
  · rintro ⟨kv, h1, h2⟩
    obtain ⟨x, hx, rfl⟩ := List.mem_map.mp h1
    have h2 : (Sum.inl (x : Int) : Key) = Sum.inl (y : Int) := of_decide_eq_true h2
    injection h2 with h2
    have e : x = y := by omega
    rw [← e]
    exact hx
  · exact fun h => ⟨_, List.mem_map.mpr ⟨y, h, rfl⟩, decide_eq_true rfl⟩
theorem ldK_put {L : List Nat} {x : Nat} (h : x ∉ L) : putK (ldK L) (.inl (x : Int)) (.bl true) = ldK (L ++ [x]) := by
  have hn : valV (ldK L) (.inl (x : Int)) = none := by
    have := ldK_has L x
    rw [decide_eq_false h] at this
    cases e : valV (ldK L) (.inl (x : Int)) with
    | none => rfl
    | some _ => rw [e] at this; cases this
  rw [putK_new _ hn]
  unfold ldK
  rw [List.map_append]
  rfl
theorem ldK_drop (L : List Nat) (x : Nat) : dropK (ldK L) (.inl (x : Int)) = ldK (remL L x) := by
  unfold dropK ldK remL
  rw [List.filter_map]
  congr 1
  refine List.filter_congr fun y _ => ?_
  show decide ((Sum.inl (y : Int) : Key) ≠ Sum.inl (x : Int)) = !decide (y = x)
  rw [Bool.eq_iff_iff, decide_eq_true_eq, Bool.not_eq_true', decide_eq_false_iff_not]
  exact ⟨fun h e => h (by rw [e]), fun h e => h (by injection e with e; omega)⟩
end Ns
/-! Own layer B: the law's draws. -/
namespace Ns
open PySem PySem.Spec PyProof.Rows L2
local macro_rules | `(tactic| walk_at "look") => `(tactic| first | assumption | exact upd_same | (refine (upd_ne (by first | assumption | exact Ne.symm (by assumption))).trans ?_; walk_at "look"))
local macro_rules | `(tactic| walk_at "cond") => `(tactic| first | assumption | omega | (dsimp only; omega) | exact ⟨by omega, by omega⟩ | decide | exact ⟨by decide, by decide, by decide⟩ | exact .inr ⟨by decide, by decide⟩ | exact .inl ⟨by decide, by decide⟩ | exact .inr ⟨by omega, by omega⟩ | exact .inl ⟨by omega, by omega⟩)
local macro_rules | `(tactic| walk_at "rd1") => `(tactic| first
  | refine ⟨_, rfl, ?_⟩
  | refine ⟨_, _, rfl, rfl, ?_⟩
  | refine ⟨rfl, ?_⟩
  | refine ⟨_, _, rfl, rfl, (by walk_at "cond"), ?_⟩
  | refine ⟨_, _, _, _, rfl, rfl, SqL.of (by walk_at "look"), rfl, ?_⟩
  | refine ⟨_, _, _, _, rfl, rfl, SqT.of (by walk_at "look"), rfl, ?_⟩
  | refine ⟨_, _, _, _, rfl, rfl, (by walk_at "look"), rfl, ?_⟩
  | refine .inl ⟨_, rfl, ?_⟩
  | refine ⟨.inl ⟨rfl, _, SqL.of (by walk_at "look")⟩, ?_⟩
  | refine ⟨_, _, rfl, ⟨by omega, by omega, by omega, by omega⟩, ?_⟩
  | refine ⟨_, rfl, (by omega), (by omega), ?_⟩
  | refine And.intro (by walk_at "cond") ?_)
local macro_rules | `(tactic| walk_at "rd") => `(tactic| repeat (walk_at "rd1"))
abbrev N_law_box : List Str := ["script", "x"]
theorem sc_law_box : FnScope N_law_box ["script"] (defScope s_law_box) := ⟨rfl, rfl, rfl, by decide +kernel, rfl, by decide +kernel, by decide +kernel⟩
abbrev N_law_take : List Str := ["box", "m", "at", "cell", "told"]
theorem sc_law_take : FnScope N_law_take ["box", "m"] (defScope s_law_take) := ⟨rfl, rfl, rfl, by decide +kernel, rfl, by decide +kernel, by decide +kernel⟩
abbrev N_law_pick : List Str := ["box", "menu"]
theorem sc_law_pick : FnScope N_law_pick ["box", "menu"] (defScope s_law_pick) := ⟨rfl, rfl, rfl, by decide +kernel, rfl, by decide +kernel, by decide +kernel⟩
/-! ### the box: two lists -/
def Box (H : Hp) (b l : Addr) : Prop := ∃ (c0 c1 c2 : Int) (ns : List Int), H b = some (.lst [.int c0, .int c1, .int c2, .ref l]) ∧ H l = some (.lst (ns.map V.int)) ∧ 0 ≤ c2
theorem Box.ne {H : Hp} {b l : Addr} (x : Box H b l) : l ≠ b := by
  obtain ⟨c0, c1, c2, ns, h1, h2, _⟩ := x
  intro e
  subst e
  rw [h1] at h2
  cases ns with
  | nil => simp at h2
  | cons n ns => cases ns with
    | nil => simp at h2
    | cons m ns => cases ns with
      | nil => simp at h2
      | cons m ns => cases ns with
        | nil => simp at h2
        | cons m ns => simp at h2
/-- all stands but the box at b, which is a box still -/
structure Kp (b l : Addr) (H H' : Hp) : Prop where
  same : ∀ a o, H a = some o → a ≠ b → H' a = some o
  box : Box H' b l
theorem Kp.refl {b l : Addr} {H : Hp} (x : Box H b l) : Kp b l H H := ⟨fun _ _ h _ => h, x⟩
theorem Kp.trans {b l : Addr} {H H1 H2 : Hp} (x : Kp b l H H1) (y : Kp b l H1 H2) : Kp b l H H2 := ⟨fun a o h n => y.same a o (x.same a o h n) n, y.box⟩
theorem Box.same {b l : Addr} {H H' : Hp} (x : Box H b l) (k : Same H H') : Box H' b l := by
  obtain ⟨c0, c1, c2, ns, h1, h2, h3⟩ := x
  exact ⟨c0, c1, c2, ns, k _ _ h1, k _ _ h2, h3⟩
theorem Kp.then {b l : Addr} {H H1 H2 : Hp} (x : Kp b l H H1) (y : Same H1 H2) : Kp b l H H2 := ⟨fun a o h n => y a o (x.same a o h n), x.box.same y⟩
theorem same_new0 {H : Hp} {p : Addr} {o : HO} (h : H p = none) : Same H (upd H p o) := fun b x e => by
  rw [upd_ne (ne_of_none e h)]
  exact e
theorem Kp.new {b l p : Addr} {o : HO} {H H1 : Hp} (x : Kp b l H H1) (h : H1 p = none) : Kp b l H (upd H1 p o) := x.then (same_new0 h)
/-- a store into an object that is new since H -/
theorem Kp.put {b l p : Addr} {o : HO} {H H1 : Hp} (x0 : Box H b l) (x : Kp b l H H1) (h : H p = none) : Kp b l H (upd H1 p o) := by
  obtain ⟨c0, c1, c2, ns, h1, h2, h3⟩ := x0
  refine ⟨fun a u e n => ?_, ?_⟩
  · rw [upd_ne (ne_of_none e h)]
    exact x.same a u e n
  · obtain ⟨d0, d1, d2, ms, g1, g2, g3⟩ := x.box
    exact ⟨d0, d1, d2, ms, by rw [upd_ne (ne_of_none h1 h)]; exact g1, by rw [upd_ne (ne_of_none h2 h)]; exact g2, g3⟩
theorem Kp.free {b l p : Addr} {H H' : Hp} (x0 : Box H b l) (x : Kp b l H H') (h : H' p = none) : H p = none := by
  cases q : H p with
  | none => rfl
  | some o =>
    by_cases e : p = b
    · obtain ⟨_, _, _, _, g, _⟩ := x.box
      rw [e, g] at h
      cases h
    · rw [x.same p o q e] at h
      cases h
theorem Kp.tup {b l p : Addr} {xs : List V} {H H' : Hp} (x0 : Box H b l) (x : Kp b l H H') (h : H p = some (.tup xs)) : H' p = some (.tup xs) := by
  obtain ⟨c0, c1, c2, ns, h1, h2, h3⟩ := x0
  exact x.same _ _ h (ne_of h h1 (by intro z; cases z))
theorem Kp.kt {b l : Addr} {H H' : Hp} (x0 : Box H b l) (x : Kp b l H H') : KeepT H H' := fun _ _ h => x.tup x0 h
/-! ### promises -/
def sp_take : Sp := fun vs H Q _ => ∃ (b l : Addr) (m : Int), vs = [.ref b, .int m] ∧ Box H b l ∧ 0 < m ∧ m < 1073741824 ∧ ∀ (r : Int) (H' : Hp), 0 ≤ r → r < m → Kp b l H H' → Q (.int r) H'
section
variable {P : Program} {w : World} {K : PySem.W.Frag} {mg : Str → Option Value} {base : Heap}
theorem cal_take (A : At K mg "_law_take" s_law_take) (B : Bi mg) : Cal P w K mg base 1 "_law_take" sp_take := by
  have nd := sc_law_take.nd
  refine A.cal sc_law_take (fun _ _ _ _ _ _ us hl => match us, hl with | [_, _], _ => rfl) ?_ fun f cdv A' outer s H vs Q E hr h => ⟨_, (C8.pss_cut (ps_if (pt_cmpR op_eq (pe_ix (ix_listK (K := K) rfl) (pv 0) pe_int (fun _ _ => rfl)) pe_int (nomark _)) (pss_cons (ps_set (i := 2) nd rfl (.inl rfl) (pe_ix (ix_listK (K := K) rfl) (pv 0) pe_int (fun _ _ => rfl)))
  (pss_cons (ps_set (i := 3) nd rfl (.inl rfl) pe_int)
  (C8.pss_cut (ps_if (pt_cmpR op_lt (pv 2) (pe_callB (call_lenK (K := K) rfl) (by rfl) B.len (by decide +kernel) (pa_cons (pe_ix (ix_listK (K := K) rfl) (pv 0) pe_int (fun _ _ => rfl)) pa_nil)) (nomark _)) (pss_cons (ps_set (i := 3) nd rfl (.inl rfl) (pe_ix (ix_listK (K := K) rfl) (pe_ix (ix_listK (K := K) rfl) (pv 0) pe_int (fun _ _ => rfl)) (pv 2) (fun _ _ => rfl)))
  (pss_one (ps_asg (pe_ifExp (pt_cmpR op_ge (pv 3) (pe_op op_pow pe_int pe_int) (nomark _)) pe_int (pe_un un_neg pe_int)) (pg_sub (pv 0) pe_int set_list)))) pss_nil)
  (pss_cons (ps_asg (pe_op op_add (pv 2) pe_int) (pg_sub (pv 0) pe_int set_list))
  (pss_cons (ps_asg (pv 3) (pg_sub (pv 0) pe_int set_list))
  (pss_one (ps_if (pt_cmpR op_eq (pe_ix (ix_listK (K := K) rfl) (pv 0) pe_int (fun _ _ => rfl)) pe_int (nomark _)) (pss_one (ps_ret pe_int)) pss_nil))))))) pss_nil)
  (pss_cons (ps_if (pt_cmpR op_gt (pe_ix (ix_listK (K := K) rfl) (pv 0) pe_int (fun _ _ => rfl)) pe_int (nomark _)) (pss_cons (ps_set (i := 4) nd rfl (.inl rfl) (pe_op op_mod (pe_callTy call_int1 (by rfl) B.int_ (by decide +kernel) (pa_cons (pe_ix (ix_listK (K := K) rfl) (pv 0) pe_int (fun _ _ => rfl)) pa_nil)) (pv 1)))
  (pss_cons (ps_asg (pe_op op_fdiv (pe_ix (ix_listK (K := K) rfl) (pv 0) pe_int (fun _ _ => rfl)) (pv 1)) (pg_sub (pv 0) pe_int set_list))
  (pss_cons (ps_asg (pe_ifExp (pt_cmpR op_gt (pe_ix (ix_listK (K := K) rfl) (pv 0) pe_int (fun _ _ => rfl)) pe_int (nomark _)) (pe_op op_sub (pe_ix (ix_listK (K := K) rfl) (pv 0) pe_int (fun _ _ => rfl)) pe_int) pe_int) (pg_sub (pv 0) pe_int set_list))
  (pss_one (ps_ret (pv 4)))))) pss_nil)
  (pss_cons (ps_asg (pe_op op_add (pe_ix (ix_listK (K := K) rfl) (pv 0) pe_int (fun _ _ => rfl)) pe_int) (pg_sub (pv 0) pe_int set_list))
  (pss_cons (ps_asg (pe_op op_mod (pe_callTy call_int1 (by rfl) B.int_ (by decide +kernel) (pa_cons (pe_op op_add (pe_op op_mul (pe_ix (ix_listK (K := K) rfl) (pv 0) pe_int (fun _ _ => rfl)) pe_int) (pe_op op_mul pe_int (pe_op op_add (pe_ix (ix_listK (K := K) rfl) (pv 0) pe_int (fun _ _ => rfl)) pe_int))) pa_nil)) pe_int) (pg_sub (pv 0) pe_int set_list))
  (pss_one (ps_ret (pe_op op_mod (pe_op op_mod (pe_callTy call_int1 (by rfl) B.int_ (by decide +kernel) (pa_cons (pe_op op_add (pe_op op_fdiv (pe_ix (ix_listK (K := K) rfl) (pv 0) pe_int (fun _ _ => rfl)) pe_int) (pe_ix (ix_listK (K := K) rfl) (pv 0) pe_int (fun _ _ => rfl))) pa_nil)) pe_int) (pv 1)))))))), ?_⟩
  · rintro vs H Q E ⟨b, l, m, rfl, _⟩
    rfl
  · obtain ⟨b, l, m, rfl, ⟨c0, c1, c2, ns, hb, hl, h0⟩, m0, m1, q⟩ := h
    have hne : l ≠ b := Box.ne ⟨c0, c1, c2, ns, hb, hl, h0⟩
    have keep : ∀ {H1 : Hp} {o1 : HO}, (∀ a o, H a = some o → a ≠ b → H1 a = some o) → ∀ a o, H a = some o → a ≠ b → (upd H1 b o1) a = some o := fun h a o e n => by
      rw [upd_ne n]
      exact h a o e n
    have k0 : ∀ a o, H a = some o → a ≠ b → H a = some o := fun a o h _ => h
    have hat : ∀ c2 : Int, 0 ≤ c2 → c2 < ((ns.map V.int).length : Nat) → ∃ z, atI (ns.map V.int) c2 = some (.int z) := fun c2 h1 h2 => by
      have hlt : c2.toNat < ns.length := by simp at h2; omega
      refine ⟨ns[c2.toNat], ?_⟩
      have := atI_nat (xs := ns.map V.int) (j := c2.toNat) (v := .int ns[c2.toNat]) (by rw [List.getElem?_map]; simp [hlt])
      rwa [Int.toNat_of_nonneg h1] at this
    -- if box[1] == 0
    refine ⟨fun σ' H' => ∃ (v2 v3 : Option V) (d0 d1 d2 : Int), σ' = [some (.ref b), some (.int m), v2, v3, none] ∧ H' b = some (.lst [.int d0, .int d1, .int d2, .ref l]) ∧ H' l = some (.lst (ns.map V.int)) ∧ 0 ≤ d2 ∧ (∀ a o, H a = some o → a ≠ b → H' a = some o), ?_, ?_⟩
    · walk_at "rd"
      refine ifI (fun c => ?_) (fun c => ?_)
      · walk_at "rd"
        refine ⟨fun σ' H' => ∃ (d1 c3 : Int), σ' = [some (.ref b), some (.int m), some (.int c2), some (.int c3), none] ∧ H' b = some (.lst [.int c0, .int d1, .int c2, .ref l]) ∧ H' l = some (.lst (ns.map V.int)) ∧ (∀ a o, H a = some o → a ≠ b → H' a = some o), ?_, ?_⟩
        · walk_at "rd"
          refine ⟨_, _, rfl, Or.inl ⟨_, SqL.of hl, rfl⟩, ?_⟩
          walk_at "rd"
          refine ifD (fun c2l => ?_) (fun c2l => ?_)
          · obtain ⟨z, hz⟩ := hat c2 h0 c2l
            walk_at "rd"
            refine ⟨_, _, _, _, rfl, rfl, SqL.of hl, hz, ?_⟩
            walk_at "rd"
            refine ifD (fun cz => ?_) (fun cz => ?_)
            · walk_at "rd"
              exact ⟨_, _, rfl, upd_same, by walk_at "look", keep k0⟩
            · walk_at "rd"
              exact ⟨_, _, rfl, upd_same, by walk_at "look", keep k0⟩
          · exact ⟨_, _, rfl, hb, hl, k0⟩
        · rintro σ' H1 ⟨d1, c3, rfl, hb1, hl1, k1⟩
          walk_at "rd"
          refine ifI (fun c => ?_) (fun c => ?_)
          · refine q _ _ (Int.le_refl _) m0 ⟨keep (keep k1), ?_⟩
            exact ⟨_, _, _, ns, upd_same, by walk_at "look", by omega⟩
          · exact ⟨_, _, _, _, _, rfl, upd_same, by walk_at "look", by omega, keep (keep k1)⟩
      · exact ⟨none, none, c0, c1, c2, rfl, hb, hl, h0, fun a o h _ => h⟩
    · rintro σ' H1 ⟨v2, v3, d0, d1, d2, rfl, hb1, hl1, p2, k1⟩
      walk_at "rd"
      refine ifD (fun c => ?_) (fun c => ?_)
      · walk_at "rd"
        refine ifD (fun c => ?_) (fun c => ?_)
        · walk_at "rd"
          exact q _ _ (Int.emod_nonneg _ (by omega)) (Int.emod_lt_of_pos _ m0) ⟨keep (keep k1), _, _, _, ns, upd_same, by walk_at "look", p2⟩
        · walk_at "rd"
          exact q _ _ (Int.emod_nonneg _ (by omega)) (Int.emod_lt_of_pos _ m0) ⟨keep (keep k1), _, _, _, ns, upd_same, by walk_at "look", p2⟩
      · walk_at "rd"
        exact q _ _ (Int.emod_nonneg _ (by omega)) (Int.emod_lt_of_pos _ m0) ⟨keep (keep k1), _, _, _, ns, upd_same, by walk_at "look", p2⟩
/-! ### the box is made -/
def sp_box (K : PySem.W.Frag) : Sp := fun vs H Q _ => ∃ (a : Addr) (ns : List Int), vs = [.ref a] ∧ SqL K H a (ns.map V.int) ∧ ns.length ≤ 63 ∧ ∀ (b l : Addr) (H' : Hp), Same H H' → Box H' b l → Q (.ref b) H'
theorem cal_box (A : At K mg "_law_box" s_law_box) (B : Bi mg) : Cal P w K mg base 1 "_law_box" (sp_box K) := by
  have nd := sc_law_box.nd
  refine A.cal sc_law_box (fun _ _ _ _ _ _ us hl => match us, hl with | [_], _ => rfl) ?_ fun f cdv A' outer s H vs Q E hr h => ⟨_, (pss_one (ps_ret (pe_lst (pa_cons pe_int (pa_cons pe_int (pa_cons pe_int (pa_cons (pe_lc (own := [("x", 1)]) rfl nd (pi_listK (K := K) rfl (pv 0)) (blkOk_by (own := [("x", 1)]) (N := N_law_box) (sc := defScope s_law_box) (by decide +kernel)) (fun _ _ _ _ _ => (pg_name (i := 1) nd rfl (.inl rfl) (.inr rfl))) (fun _ _ _ _ _ => pts_nil) (fun _ _ _ _ _ => (pe_callB call_abs (by rfl) B.abs (by decide +kernel) (pa_cons (pe_callTy call_int1 (by rfl) B.int_ (by decide +kernel) (pa_cons (pv 1) pa_nil)) pa_nil)))) pa_nil))))))), ?_⟩
  · rintro vs H Q E ⟨a, ns, rfl, _⟩
    rfl
  · obtain ⟨a, ns, rfl, hS, hn, q⟩ := h
    refine ⟨_, rfl, a, rfl, ⟨_, hS⟩, fun D hD => ?_⟩
    refine comp_list persNm (fun z : Int => some (if z < 0 then -z else z)) persNm hD hS (by rw [List.length_map]; exact sizeBig (by omega)) (pairedNm H ns) ?_ ?_
    · rintro z x H1 Yes No hz rfl sm yes no
      walk_at "rd"
      exact yes _ rfl _ _ (Same.refl _) rfl
    · intro H1 ys sm hy pr
      refine ⟨by show 4 ≤ sizeLine; decide, fun p hp => ?_⟩
      have e := pairedNm_eq pr
      subst e
      have hne : p ≠ D := fun e => by rw [e, hy] at hp; cases hp
      exact q p D _ (sNew sm hp) ⟨0, 0, 0, _, upd_same, by rw [upd_ne (Ne.symm hne)]; exact hy, Int.le_refl _⟩
/-! ### an item of a menu -/
def sp_pick (K : PySem.W.Frag) : Sp := fun vs H Q _ => ∃ (b l m : Addr) (xs : List V), vs = [.ref b, .ref m] ∧ Box H b l ∧ ((H m = some (.lst xs) ∧ m ≠ b) ∨ H m = some (.tup xs)) ∧ xs ≠ [] ∧ xs.length < 1073741824 ∧
  ∀ (v : V) (H' : Hp), v ∈ xs → Kp b l H H' → Q v H'
theorem cal_pick (A : At K mg "_law_pick" s_law_pick) (B : Bi mg) (c_law_take : Cal P w K mg base 1 "_law_take" sp_take) : Cal P w K mg base 2 "_law_pick" (sp_pick K) := by
  have nd := sc_law_pick.nd
  refine A.cal sc_law_pick (fun _ _ _ _ _ _ us hl => match us, hl with | [_, _], _ => rfl) ?_ fun f cdv A' outer s H vs Q E hr h => ⟨_, (pss_one (ps_ret (pe_ix (ix_seqK (K := K) rfl) (pv 1) (pe_cal c_law_take hr (by first | decide | omega) (by rfl) passE (pa_cons (pv 0) (pa_cons (pe_callB (call_lenK (K := K) rfl) (by rfl) B.len (by decide +kernel) (pa_cons (pv 1) pa_nil)) pa_nil))) (fun _ _ => rfl)))), ?_⟩
  · rintro vs H Q E ⟨b, l, m, xs, rfl, _⟩
    rfl
  · obtain ⟨b, l, m, xs, rfl, hb, hm, hx, hn, q⟩ := h
    have hpos : 0 < xs.length := List.length_pos_iff.mpr hx
    have hz : (xs.length : Int) < 1073741824 := by omega
    walk_at "rd"
    refine ⟨_, _, rfl, hm.elim (fun h => .inl ⟨_, SqL.of h.1, rfl⟩) (fun h => .inr ⟨_, SqT.of h, rfl⟩), ?_⟩
    refine ⟨b, l, _, rfl, hb, by omega, hz, fun r H' r0 r1 k => ?_⟩
    have hat : xs[r.toNat]? = some xs[r.toNat] := by simp [show r.toNat < xs.length by omega]
    have hat2 : atI xs r = some xs[r.toNat] := by
      have := atI_nat hat
      rwa [Int.toNat_of_nonneg r0] at this
    have q' := q _ H' (List.mem_of_getElem? hat) k
    rcases hm with ⟨h, hne⟩ | h
    · exact .inl ⟨_, _, _, _, rfl, rfl, SqL.of (k.same _ _ h hne), hat2, q'⟩
    · exact .inr (.inl ⟨_, _, _, _, rfl, rfl, SqT.of (k.tup hb h), hat2, q'⟩)
end
end Ns
/-! Own layer C: nets that the law draws. -/
namespace Ns
open PySem PySem.Spec PyProof.Rows L2
local macro_rules | `(tactic| walk_at "look") => `(tactic| first | assumption | exact upd_same | (refine (upd_ne (by first | assumption | exact Ne.symm (by assumption))).trans ?_; walk_at "look"))
local macro_rules | `(tactic| walk_at "cond") => `(tactic| first | assumption | omega | (dsimp only; omega) | exact ⟨by omega, by omega⟩ | decide | exact ⟨by decide, by decide, by decide⟩ | exact .inr ⟨by decide, by decide⟩ | exact .inl ⟨by decide, by decide⟩ | exact .inr ⟨by omega, by omega⟩ | exact .inl ⟨by omega, by omega⟩)
local macro_rules | `(tactic| walk_at "rd1") => `(tactic| first
  | refine ⟨_, rfl, ?_⟩
  | refine ⟨_, _, rfl, rfl, ?_⟩
  | refine ⟨rfl, ?_⟩
  | refine ⟨_, _, rfl, rfl, (by walk_at "cond"), ?_⟩
  | refine ⟨_, _, _, _, rfl, rfl, SqL.of (by walk_at "look"), rfl, ?_⟩
  | refine ⟨_, _, _, _, rfl, rfl, SqT.of (by walk_at "look"), rfl, ?_⟩
  | refine ⟨_, _, _, _, rfl, rfl, (by walk_at "look"), rfl, ?_⟩
  | refine .inl ⟨_, rfl, ?_⟩
  | refine ⟨.inl ⟨rfl, _, SqL.of (by walk_at "look")⟩, ?_⟩
  | refine ⟨_, _, rfl, ⟨by omega, by omega, by omega, by omega⟩, ?_⟩
  | refine ⟨_, rfl, (by omega), (by omega), ?_⟩
  | refine And.intro (by walk_at "cond") ?_)
local macro_rules | `(tactic| walk_at "rd") => `(tactic| repeat (walk_at "rd1"))
abbrev N_law_pairs : List Str := ["many", "pairs", "a", "b"]
theorem sc_law_pairs : FnScope N_law_pairs ["many"] (defScope s_law_pairs) := ⟨rfl, rfl, rfl, by decide +kernel, rfl, by decide +kernel, by decide +kernel⟩
section
variable {P : Program} {w : World} {K : PySem.W.Frag} {mg : Str → Option Value} {base : Heap}
def sp_pairs : Sp := fun vs H Q _ => ∃ n : Nat, vs = [pI n] ∧ n ≤ 1000 ∧ ∀ (p : Addr) (us : List V) (H' : Hp), Same H H' → H p = none → H' p = some (.lst us) → Paired (Pr H') us (allPairs n) → Q (.ref p) H'
theorem rowP_eq {n x : Nat} {m : Nat} (h : m = n - (x + 1)) : (List.range m).filterMap (fun k => some (x, x + 1 + k)) = rowP n x := by
  subst h
  unfold rowP
  rw [← List.filterMap_eq_map]
  rfl
theorem cal_pairs (A : At K mg "_law_pairs" s_law_pairs) (B : Bi mg) : Cal P w K mg base 1 "_law_pairs" sp_pairs := by
  have nd := sc_law_pairs.nd
  refine A.cal sc_law_pairs (fun _ _ _ _ _ _ us hl => match us, hl with | [_], _ => rfl) ?_ fun f cdv A' outer s H vs Q E hr h => ⟨_, (pss_cons (ps_set (i := 1) nd rfl (.inl rfl) (pe_lst pa_nil))
  (pss_cons (ps_for passOwn rfl (pi_range1 (by rfl) B.range (pa_cons (pv 0) pa_nil)) (pg_name (i := 2) nd rfl (.inr rfl)) (pss_one (ps_expr (pe_bm PySem.F.plainAttrs_list PySem.F.slot_list_extend PySem.F.type_list_extend mt_extend (pv 1) (pa_cons (pe_lc (own := [("b", 3)]) rfl nd (pi_range2 (by rfl) B.range (pa_cons (pe_op op_add (pv 2) pe_int) (pa_cons (pv 0) pa_nil))) (blkOk_by (own := [("b", 3)]) (N := N_law_pairs) (sc := defScope s_law_pairs) (by decide +kernel)) (fun _ _ _ _ _ => (pg_name (i := 3) nd rfl (.inl rfl) (.inr rfl))) (fun _ _ _ _ _ => pts_nil) (fun _ _ _ _ _ => (pe_tup (pa_cons (pv 2) (pa_cons (pv 3) pa_nil))))) pa_nil)))))
  (pss_one (ps_ret (pv 1))))), ?_⟩
  · rintro vs H Q E ⟨n, rfl, _⟩
    rfl
  · obtain ⟨n, rfl, hn, q⟩ := h
    refine ⟨Nat.zero_le _, fun p hp => ?_⟩
    refine ⟨_, rfl, _, rfl, by omega, by omega, for_range (lo := 0) (n := n) (fun i σ H1 => ∃ v2, σ = [some (pI n), some (.ref p), v2, none] ∧ Same H H1 ∧ ∃ us, H1 p = some (.lst us) ∧ Paired (Pr H1) us ((List.range i).flatMap (rowP n))) ⟨none, rfl, same_laid hp, [], upd_same, by simpa using Paired.nil⟩ ?_ ?_⟩
    · rintro i σ H1 hi ⟨v2, rfl, sm, us, hu, pr⟩
      walk_at "rd"
      intro D hD
      have hpD : p ≠ D := ne_of_none hu hD
      have len1 : us.length ≤ 1000 * 1000 := by
        have h1 := flat_len (rowP n) n (rowP_len n) (List.range i)
        rw [List.length_range] at h1
        have h2 := pr.length
        have h3 : i * n ≤ 1000 * 1000 := Nat.mul_le_mul (by omega) hn
        omega
      refine comp_range (n := ((n : Int) - (0 + (i : Int) + 1)).toNat) (sizeBig (by omega)) (fun k => some (i, i + 1 + k)) persPr hD ?_ ?_
      · intro k H2 Yes No hk sm2 yes no
        walk_at "rd"
        refine ⟨by show 2 ≤ sizeLine; decide, fun t ht => ?_⟩
        exact yes _ rfl _ _ (same_laid ht) (prMk upd_same (by simp) (by simp <;> omega))
      · intro H2 ys sm2 hy pr2
        rw [rowP_eq (n := n) (by omega)] at pr2
        have len2 := rowP_len n i
        have len3 := pr2.length
        refine ⟨_, _, _, _, rfl, rfl, sm2 _ _ hu, hy, Nat.le_of_lt (sizeBig (by omega)), ?_⟩
        have kt : KeepT H2 (upd H2 p (.lst (us ++ ys))) := KeepT.lst (sm2 _ _ hu)
        refine ⟨some (pI i), ?_, sPut (sm.trans sm2) hp, _, upd_same, ?_⟩
        · simp [pI, L2.start]
        · rw [List.range_succ, List.flatMap_append]
          refine pApp (pMono persPr ((sKt sm2).trans kt) pr) ?_
          simpa using pMono persPr kt pr2
    · rintro σ H1 ⟨v2, rfl, sm, us, hu, pr⟩
      walk_at "rd"
      exact q p us H1 sm hp hu pr
/-! ### all points in a drawn order -/
/-- a tuple of points, its object known -/
def Row (H : Hp) (v : V) (xs : List Nat) : Prop := ∃ (t : Addr) (o : Obj), v = .ref t ∧ H t = some (.frz o (.tup (xs.map pI))) ∧ o.dict = none
theorem Row.same {H H' : Hp} {v : V} {xs : List Nat} (x : Row H v xs) (k : Same H H') : Row H' v xs := by
  obtain ⟨t, o, e, h, d⟩ := x
  exact ⟨t, o, e, k _ _ h, d⟩
theorem Row.kp {b l : Addr} {H H' : Hp} {v : V} {xs : List Nat} (hb : Box H b l) (x : Row H v xs) (k : Kp b l H H') : Row H' v xs := by
  obtain ⟨t, o, e, h, d⟩ := x
  obtain ⟨_, _, _, _, g, _⟩ := hb
  exact ⟨t, o, e, k.same _ _ h (ne_of h g (by intro z; cases z)), d⟩
theorem map_pI (xs : List Nat) : xs.map pI = (xs.map fun z : Nat => (z : Int)).map V.int := by
  rw [List.map_map]
  rfl
/-! ### dicts of ties -/
theorem box_ne {H : Hp} {b l p : Addr} (hb : Box H b l) (hp : H p = none) : p ≠ b := fun e => by
  obtain ⟨_, _, _, _, g, _⟩ := hb
  rw [e, g] at hp
  cases hp
/-! ### twins -/
end
end Ns
/-! Own layer N: the table of a net's ties. -/
namespace Ns
open PySem PySem.Spec PyProof.Rows L2
local macro_rules | `(tactic| walk_at "look") => `(tactic| first | assumption | exact upd_same | (refine (upd_ne (by first | assumption | exact Ne.symm (by assumption))).trans ?_; walk_at "look"))
local macro_rules | `(tactic| walk_at "cond") => `(tactic| first | assumption | omega | (dsimp only; omega) | exact ⟨by omega, by omega⟩ | decide | exact ⟨by decide, by decide, by decide⟩ | exact .inr ⟨by decide, by decide⟩ | exact .inl ⟨by decide, by decide⟩ | exact .inr ⟨by omega, by omega⟩ | exact .inl ⟨by omega, by omega⟩)
local macro_rules | `(tactic| walk_at "rd1") => `(tactic| first
  | refine ⟨_, rfl, ?_⟩
  | refine ⟨_, _, rfl, rfl, ?_⟩
  | refine ⟨rfl, ?_⟩
  | refine ⟨_, _, rfl, rfl, (by walk_at "cond"), ?_⟩
  | refine ⟨_, _, _, _, rfl, rfl, SqL.of (by walk_at "look"), rfl, ?_⟩
  | refine ⟨_, _, _, _, rfl, rfl, SqT.of (by walk_at "look"), rfl, ?_⟩
  | refine ⟨_, _, _, _, rfl, rfl, (by walk_at "look"), rfl, ?_⟩
  | refine .inl ⟨_, rfl, ?_⟩
  | refine ⟨.inl ⟨rfl, _, SqL.of (by walk_at "look")⟩, ?_⟩
  | refine ⟨_, _, rfl, ⟨by omega, by omega, by omega, by omega⟩, ?_⟩
  | refine ⟨_, rfl, (by omega), (by omega), ?_⟩
  | refine And.intro (by walk_at "cond") ?_)
local macro_rules | `(tactic| walk_at "rd") => `(tactic| repeat (walk_at "rd1"))
abbrev N_matrix : List Str := ["net", "out", "x", "y"]
theorem sc_matrix : FnScope N_matrix ["net"] (defScope s_matrix) := ⟨rfl, rfl, rfl, by decide +kernel, rfl, by decide +kernel, by decide +kernel⟩
abbrev N_law_table : List Str := ["net", "tied", "a", "b", "k"]
theorem sc_law_table : FnScope N_law_table ["net"] (defScope s_law_table) := ⟨rfl, rfl, rfl, by decide +kernel, rfl, by decide +kernel, by decide +kernel⟩
def tieT (ties : List (Nat × Nat)) : Tm := fun i j => decide ((i, j) ∈ ties ∨ (j, i) ∈ ties)
theorem tieT_snoc {ties : List (Nat × Nat)} {p : Nat × Nat} {i j : Nat} : setT (setT (tieT ties) p.1 p.2 true) p.2 p.1 true i j = tieT (ties ++ [p]) i j := by
  unfold setT tieT
  have e : ((i, j) ∈ ties ++ [p] ∨ (j, i) ∈ ties ++ [p]) ↔ (i = p.2 ∧ j = p.1) ∨ (i = p.1 ∧ j = p.2) ∨ ((i, j) ∈ ties ∨ (j, i) ∈ ties) := by
    rw [List.mem_append, List.mem_append, List.mem_singleton, List.mem_singleton, Prod.ext_iff, Prod.ext_iff]
    constructor
    · rintro ((h | ⟨h1, h2⟩) | (h | ⟨h1, h2⟩))
      · exact .inr (.inr (.inl h))
      · exact .inr (.inl ⟨h1, h2⟩)
      · exact .inr (.inr (.inr h))
      · exact .inl ⟨h2, h1⟩
    · rintro (⟨h1, h2⟩ | ⟨h1, h2⟩ | h | h)
      · exact .inr (.inr ⟨h2, h1⟩)
      · exact .inl (.inr ⟨h1, h2⟩)
      · exact .inl (.inl h)
      · exact .inr (.inl h)
  by_cases h1 : i = p.2 ∧ j = p.1
  · rw [if_pos h1]
    exact (decide_eq_true (e.mpr (.inl h1))).symm
  · rw [if_neg h1]
    by_cases h2 : i = p.1 ∧ j = p.2
    · rw [if_pos h2]
      exact (decide_eq_true (e.mpr (.inr (.inl h2)))).symm
    · rw [if_neg h2]
      exact decide_eq_decide.mpr ⟨fun h => e.mpr (.inr (.inr h)), fun h => (e.mp h).elim (fun h => absurd h h1) fun h => h.elim (fun h => absurd h h2) id⟩
theorem tieT_sym (ties : List (Nat × Nat)) (i j : Nat) : tieT ties i j = tieT ties j i := decide_eq_decide.mpr Or.comm
theorem tieT_irr {n : Nat} {ties : List (Nat × Nat)} (h : Good n ties) (i : Nat) : tieT ties i i = false := by
  refine decide_eq_false fun h2 => ?_
  have : (i, i) ∈ ties := h2.elim id id
  have := (h.1 _ this).1
  omega
theorem rows_mat {H1 H : Hp} {D : Addr} {rows : List Addr} {n : Nat} {f : Nat → Nat → Bool} (hy : H D = some (.lst (rows.map V.ref))) (rw : Rws H1 H D rows ((List.range n).map fun i => rowV n (f i))) : Mat H D rows n f := by
  have hl := rw.2.length
  rw [List.length_map, List.length_range] at hl
  refine ⟨hy, hl, rw.1, fun i a h => ?_⟩
  obtain ⟨c, hc, h1, _⟩ := pAtL rw.2 h
  have hi := (List.getElem?_eq_some_iff.mp h).1
  rw [List.getElem?_map, List.getElem?_range (by omega)] at hc
  have e := Option.some.inj hc
  rw [h1, ← e]
theorem Rws.new {H1 H : Hp} {D : Addr} {rows : List Addr} {cs : List (List V)} (x : Rws H1 H D rows cs) : ∀ a ∈ rows, H1 a = none := fun a ha => by
  obtain ⟨c, _, _, _, h⟩ := pMemL x.2 ha
  exact h
theorem rep_rowV (n : Nat) : (List.replicate n [V.bl false]).flatten = rowV n fun _ => false := by
  unfold rowV
  rw [List.map_const', List.length_range]
  induction n with
  | zero => rfl
  | succ n ih => rw [List.replicate_succ, List.replicate_succ, List.flatten_cons, ih]; rfl
section
variable {P : Program} {w : World} {K : PySem.W.Frag} {mg : Str → Option Value} {base : Heap}
def sp_matrix : Sp := fun vs H Q _ => ∃ (v : V) (n : Nat) (ties : List (Nat × Nat)), vs = [v] ∧ Net H v n ties ∧ n ≤ 1000 ∧ (∀ p ∈ ties, p.1 < n ∧ p.2 < n) ∧ ∀ (m : Addr) (rows : List Addr) (H' : Hp), Same H H' → H m = none → (∀ a ∈ rows, H a = none) → Mat H' m rows n (tieT ties) → Q (.ref m) H'
theorem cal_matrix (A : At K mg "matrix" s_matrix) (B : Bi mg) : Cal P w K mg base 1 "matrix" sp_matrix := by
  have nd := sc_matrix.nd
  refine A.cal sc_matrix (fun _ _ _ _ _ _ us hl => match us, hl with | [_], _ => rfl) ?_ fun f cdv A' outer s H vs Q E hr h => ⟨_, (pss_cons (ps_setLc (i := 1) (own := [("x", 2)]) rfl nd rfl rfl (sw_true rfl rfl rfl (by decide +kernel)) (pi_range1 (by rfl) B.range (pa_cons (pe_ix (ix_tupK (K := K) rfl) (pv 0) pe_int (fun _ _ => rfl)) pa_nil)) (blkOk_by (own := [("x", 2)]) (N := N_matrix) (sc := defScope s_matrix) (by decide +kernel)) (fun _ _ _ _ _ => (pg_name (i := 2) nd rfl (.inl rfl) (.inr rfl))) (fun _ _ _ _ _ => pts_nil) (fun _ _ _ _ _ => (pe_op op_rep (pe_lst (pa_cons pe_bl pa_nil)) (pe_ix (ix_tupK (K := K) rfl) (pv 0) pe_int (fun _ _ => rfl)))))
  (pss_cons (ps_for passOwn rfl (pi_tupK (K := K) rfl (pe_ix (ix_tupK (K := K) rfl) (pv 0) pe_int (fun _ _ => rfl))) (pg_tupK (K := K) (n := 2) rfl rfl (pgs_cons (pg_name (i := 2) nd rfl (.inl rfl)) (pgs_cons (pg_name (i := 3) nd rfl (.inl rfl)) pgs_nil))) (pss_cons (ps_asg pe_bl (pg_sub (pe_ix (ix_listK (K := K) rfl) (pv 1) (pv 2) (fun _ _ => rfl)) (pv 3) set_list))
  (pss_one (ps_asg pe_bl (pg_sub (pe_ix (ix_listK (K := K) rfl) (pv 1) (pv 3) (fun _ _ => rfl)) (pv 2) set_list)))))
  (pss_one (ps_ret (pv 1))))), ?_⟩
  · rintro vs H Q E ⟨v, n, ties, rfl, _⟩
    rfl
  · obtain ⟨v, n, ties, rfl, hN, hn, hg, q⟩ := h
    obtain ⟨t, u, rfl, h, t2, us, rfl, h2, pr⟩ := hN
    refine ⟨_, rfl, _, _, _, _, rfl, rfl, SqT.of h, rfl, _, rfl, by omega, by omega, fun D hD => ?_⟩
    refine comp_rows (lo := 0) (n := (n : Int).toNat) (sizeBig (by omega)) (fun _ => rowV n fun _ => false) hD ?_ ?_
    · intro i H2 Yes No hi sm2 yes
      refine ⟨rfl, by show 1 ≤ sizeLine; decide, fun p hp => ?_⟩
      refine ⟨_, rfl, _, _, _, _, rfl, rfl, SqT.of (sNew sm2 hp _ _ h), rfl, p, n, _, rfl, rfl, upd_same, by omega, by omega, ?_, fun a ha => ?_⟩
      · show 1 * (n : Int).toNat ≤ _
        exact Nat.le_of_lt (sizeBig (by omega))
      · refine yes a _ (sNew (same_laid hp) ha) ?_ ?_
        · by_cases e : a = p
          · rw [e]
            exact hp
          · rw [upd_ne e] at ha
            exact ha
        · rw [upd_same, show ((n : Int)).toNat = n from Int.toNat_natCast n, rep_rowV]
    · intro H2 rows sm2 hy rw
      rw [show ((n : Int)).toNat = n from Int.toNat_natCast n] at rw
      have M0 : Mat H2 D rows n (tieT []) := (rows_mat (f := fun _ _ => false) hy rw).congr fun i j _ _ => rfl
      have hnew := rw.new
      refine ⟨_, rfl, _, _, _, _, rfl, rfl, SqT.of (sm2 _ _ h), rfl, t2, rfl, ⟨_, SqT.of (sm2 _ _ h2)⟩, ?_⟩
      refine for_tup (K := K) (a := t2) (xs := us) (fun i σ H1 => ∃ v2 v3, σ = [some (.ref t), some (.ref D), v2, v3] ∧ Same H H1 ∧ Mat H1 D rows n (tieT (ties.take i))) ⟨none, none, rfl, sm2, M0⟩ (fun i σ H1 _ ⟨_, _, _, s1, _⟩ => SqT.of (s1 _ _ h2)) ?_ ?_
      · rintro i x σ H1 hx ⟨v2, v3, rfl, s1, M1⟩
        obtain ⟨p, hp, tp, rfl, ht⟩ := pAtL pr hx
        have hb := hg p (List.mem_of_getElem? hp)
        refine ⟨tp, _, rfl, SqT.of (s1 _ _ ht), rfl, _, _, rfl, _, _, rfl, rfl, ?_⟩
        refine wrM M1 rfl rfl rfl hb.1 hb.2 fun H3 M3 o3 _ => ?_
        refine wrM M3 rfl rfl rfl hb.2 hb.1 fun H4 M4 o4 _ => ?_
        refine ⟨_, _, rfl, Out.same s1 hnew (o3.trans o4), M4.congr fun a b _ _ => ?_⟩
        rw [List.take_add_one, hp]
        exact tieT_snoc
      · rintro σ H1 ⟨v2, v3, rfl, s1, M1⟩
        rw [pr.length, List.take_length] at M1
        exact ⟨_, rfl, q D rows H1 s1 hD hnew M1⟩
theorem cal_table (A : At K mg "_law_table" s_law_table) (B : Bi mg) : Cal P w K mg base 1 "_law_table" sp_matrix := by
  have nd := sc_law_table.nd
  refine A.cal sc_law_table (fun _ _ _ _ _ _ us hl => match us, hl with | [_], _ => rfl) ?_ fun f cdv A' outer s H vs Q E hr h => ⟨_, (pss_cons (ps_setLc (i := 1) (own := [("k", 4)]) rfl nd rfl rfl (sw_true rfl rfl rfl (by decide +kernel)) (pi_range1 (by rfl) B.range (pa_cons (pe_ix (ix_tupK (K := K) rfl) (pv 0) pe_int (fun _ _ => rfl)) pa_nil)) (blkOk_by (own := [("k", 4)]) (N := N_law_table) (sc := defScope s_law_table) (by decide +kernel)) (fun _ _ _ _ _ => (pg_name (i := 4) nd rfl (.inl rfl) (.inr rfl))) (fun _ _ _ _ _ => pts_nil) (fun _ _ _ _ _ => (pe_op op_rep (pe_lst (pa_cons pe_bl pa_nil)) (pe_ix (ix_tupK (K := K) rfl) (pv 0) pe_int (fun _ _ => rfl)))))
  (pss_cons (ps_for passOwn rfl (pi_tupK (K := K) rfl (pe_ix (ix_tupK (K := K) rfl) (pv 0) pe_int (fun _ _ => rfl))) (pg_tupK (K := K) (n := 2) rfl rfl (pgs_cons (pg_name (i := 2) nd rfl (.inl rfl)) (pgs_cons (pg_name (i := 3) nd rfl (.inl rfl)) pgs_nil))) (pss_cons (ps_asg pe_bl (pg_sub (pe_ix (ix_listK (K := K) rfl) (pv 1) (pv 2) (fun _ _ => rfl)) (pv 3) set_list))
  (pss_one (ps_asg pe_bl (pg_sub (pe_ix (ix_listK (K := K) rfl) (pv 1) (pv 3) (fun _ _ => rfl)) (pv 2) set_list)))))
  (pss_one (ps_ret (pv 1))))), ?_⟩
  · rintro vs H Q E ⟨v, n, ties, rfl, _⟩
    rfl
  · obtain ⟨v, n, ties, rfl, hN, hn, hg, q⟩ := h
    obtain ⟨t, u, rfl, h, t2, us, rfl, h2, pr⟩ := hN
    refine ⟨_, rfl, _, _, _, _, rfl, rfl, SqT.of h, rfl, _, rfl, by omega, by omega, fun D hD => ?_⟩
    refine comp_rows (lo := 0) (n := (n : Int).toNat) (sizeBig (by omega)) (fun _ => rowV n fun _ => false) hD ?_ ?_
    · intro i H2 Yes No hi sm2 yes
      refine ⟨rfl, by show 1 ≤ sizeLine; decide, fun p hp => ?_⟩
      refine ⟨_, rfl, _, _, _, _, rfl, rfl, SqT.of (sNew sm2 hp _ _ h), rfl, p, n, _, rfl, rfl, upd_same, by omega, by omega, ?_, fun a ha => ?_⟩
      · show 1 * (n : Int).toNat ≤ _
        exact Nat.le_of_lt (sizeBig (by omega))
      · refine yes a _ (sNew (same_laid hp) ha) ?_ ?_
        · by_cases e : a = p
          · rw [e]
            exact hp
          · rw [upd_ne e] at ha
            exact ha
        · rw [upd_same, show ((n : Int)).toNat = n from Int.toNat_natCast n, rep_rowV]
    · intro H2 rows sm2 hy rw
      rw [show ((n : Int)).toNat = n from Int.toNat_natCast n] at rw
      have M0 : Mat H2 D rows n (tieT []) := (rows_mat (f := fun _ _ => false) hy rw).congr fun i j _ _ => rfl
      have hnew := rw.new
      refine ⟨_, rfl, _, _, _, _, rfl, rfl, SqT.of (sm2 _ _ h), rfl, t2, rfl, ⟨_, SqT.of (sm2 _ _ h2)⟩, ?_⟩
      refine for_tup (K := K) (a := t2) (xs := us) (fun i σ H1 => ∃ v2 v3 r, σ = some (.ref t) :: some (.ref D) :: v2 :: v3 :: r ∧ Same H H1 ∧ Mat H1 D rows n (tieT (ties.take i))) ⟨none, none, _, rfl, sm2, M0⟩ (fun i σ H1 _ ⟨_, _, _, _, s1, _⟩ => SqT.of (s1 _ _ h2)) ?_ ?_
      · rintro i x σ H1 hx ⟨v2, v3, r, rfl, s1, M1⟩
        obtain ⟨p, hp, tp, rfl, ht⟩ := pAtL pr hx
        have hb := hg p (List.mem_of_getElem? hp)
        refine ⟨tp, _, rfl, SqT.of (s1 _ _ ht), rfl, _, _, rfl, _, _, rfl, rfl, ?_⟩
        refine wrM M1 rfl rfl rfl hb.1 hb.2 fun H3 M3 o3 _ => ?_
        refine wrM M3 rfl rfl rfl hb.2 hb.1 fun H4 M4 o4 _ => ?_
        refine ⟨_, _, _, rfl, Out.same s1 hnew (o3.trans o4), M4.congr fun a b _ _ => ?_⟩
        rw [List.take_add_one, hp]
        exact tieT_snoc
      · rintro σ H1 ⟨v2, v3, r, rfl, s1, M1⟩
        rw [pr.length, List.take_length] at M1
        exact ⟨_, rfl, q D rows H1 s1 hD hnew M1⟩
end
end Ns
/-! Own layer P: the program's looks at nets. -/
namespace Ns
open PySem PySem.Spec PyProof.Rows L2
local macro_rules | `(tactic| walk_at "look") => `(tactic| first | assumption | exact upd_same | (refine (upd_ne (by first | assumption | exact Ne.symm (by assumption))).trans ?_; walk_at "look"))
local macro_rules | `(tactic| walk_at "cond") => `(tactic| first | assumption | omega | (dsimp only; omega) | exact ⟨by omega, by omega⟩ | decide | exact ⟨by decide, by decide, by decide⟩ | exact .inr ⟨by decide, by decide⟩ | exact .inl ⟨by decide, by decide⟩ | exact .inr ⟨by omega, by omega⟩ | exact .inl ⟨by omega, by omega⟩)
local macro_rules | `(tactic| walk_at "rd1") => `(tactic| first
  | refine ⟨_, rfl, ?_⟩
  | refine ⟨_, _, rfl, rfl, ?_⟩
  | refine ⟨rfl, ?_⟩
  | refine ⟨_, _, rfl, rfl, (by walk_at "cond"), ?_⟩
  | refine ⟨_, _, _, _, rfl, rfl, SqL.of (by walk_at "look"), rfl, ?_⟩
  | refine ⟨_, _, _, _, rfl, rfl, SqT.of (by walk_at "look"), rfl, ?_⟩
  | refine ⟨_, _, _, _, rfl, rfl, (by walk_at "look"), rfl, ?_⟩
  | refine .inl ⟨_, rfl, ?_⟩
  | refine ⟨.inl ⟨rfl, _, SqL.of (by walk_at "look")⟩, ?_⟩
  | refine ⟨_, _, rfl, ⟨by omega, by omega, by omega, by omega⟩, ?_⟩
  | refine ⟨_, rfl, (by omega), (by omega), ?_⟩
  | refine And.intro (by walk_at "cond") ?_)
local macro_rules | `(tactic| walk_at "rd") => `(tactic| repeat (walk_at "rd1"))
abbrev N_is_number : List Str := ["x"]
theorem sc_is_number : FnScope N_is_number ["x"] (defScope s_is_number) := ⟨rfl, rfl, rfl, by decide +kernel, rfl, by decide +kernel, by decide +kernel⟩
abbrev N_is_pair : List Str := ["x"]
theorem sc_is_pair : FnScope N_is_pair ["x"] (defScope s_is_pair) := ⟨rfl, rfl, rfl, by decide +kernel, rfl, by decide +kernel, by decide +kernel⟩
abbrev N_is_net : List Str := ["x", "before", "pair"]
theorem sc_is_net : FnScope N_is_net ["x"] (defScope s_is_net) := ⟨rfl, rfl, rfl, by decide +kernel, rfl, by decide +kernel, by decide +kernel⟩
abbrev N_check_net : List Str := ["x"]
theorem sc_check_net : FnScope N_check_net ["x"] (defScope s_check_net) := ⟨rfl, rfl, rfl, by decide +kernel, rfl, by decide +kernel, by decide +kernel⟩
section
variable {P : Program} {w : World} {K : PySem.W.Frag} {mg : Str → Option Value} {base : Heap}
def sp_is_number (K : PySem.W.Frag) : Sp := fun vs H Q _ => ∃ (v : V) (d : PyData), vs = [v] ∧ Dp K H v d ∧ Q (.bl (isNumD d)) H
theorem cal_is_number (A : At K mg "is_number" s_is_number) (B : Bi mg) : Cal P w K mg base 1 "is_number" (sp_is_number K) := by
  have nd := sc_is_number.nd
  refine A.cal sc_is_number (fun _ _ _ _ _ _ us hl => match us, hl with | [_], _ => rfl) ?_ fun f cdv A' outer s H vs Q E hr h => ⟨_, (pss_one (ps_ret (pe_and (pe_callB (call_isiK' (K := K) rfl) (by rfl) B.isinstance (by decide +kernel) (pa_cons (pv 0) (pa_cons (pe_bltn (v := .ty "int") (u := .type "int") (by rfl) B.int_ (by decide +kernel) rfl) pa_nil))) (pe_one (pe_not (pe_callB (call_isiK' (K := K) rfl) (by rfl) B.isinstance (by decide +kernel) (pa_cons (pv 0) (pa_cons (pe_bltn (v := .ty "bool") (u := .type "bool") (by rfl) B.bool (by decide +kernel) rfl) pa_nil)))))))), ?_⟩
  · rintro vs H Q E ⟨v, d, rfl, _⟩
    rfl
  · obtain ⟨v, d, rfl, hd, q⟩ := h
    refine ⟨_, rfl, _, .ty "int", .type (tyName _), .type "int", _, rfl, .ty _, tyX_of hd, kit_ty (kit_isi _ "int" (by simp)), ?_⟩
    rw [isi_int]
    refine ⟨_, rfl, ifB (fun c => ?_) (fun c => ?_)⟩
    · refine ⟨_, rfl, _, .ty "bool", .type (tyName _), .type "bool", _, rfl, .ty _, tyX_of hd, kit_ty (kit_isi _ "bool" (by simp)), ?_⟩
      rw [isi_bool]
      refine ⟨_, rfl, ?_⟩
      cases d <;> first | exact q | cases c
    · cases d <;> first | exact q | cases c
def sp_is_pair (K : PySem.W.Frag) : Sp := fun vs H Q _ => ∃ (v : V) (d : PyData), vs = [v] ∧ Dp K H v d ∧ Q (.bl (isPairD d)) H
theorem cal_is_pair (A : At K mg "is_pair" s_is_pair) (B : Bi mg) (c_is_number : Cal P w K mg base 1 "is_number" (sp_is_number K)) : Cal P w K mg base 2 "is_pair" (sp_is_pair K) := by
  have nd := sc_is_pair.nd
  refine A.cal sc_is_pair (fun _ _ _ _ _ _ us hl => match us, hl with | [_], _ => rfl) ?_ fun f cdv A' outer s H vs Q E hr h => ⟨_, (pss_one (ps_ret (pe_and (pe_callB (call_isiK' (K := K) rfl) (by rfl) B.isinstance (by decide +kernel) (pa_cons (pv 0) (pa_cons (pe_bltn (v := .ty "tuple") (u := .type "tuple") (by rfl) B.tuple (by decide +kernel) rfl) pa_nil))) (pe_and (pe_cmpR op_eq (pe_callB (call_lenK (K := K) rfl) (by rfl) B.len (by decide +kernel) (pa_cons (pv 0) pa_nil)) pe_int (nomark _)) (pe_and (pe_cal c_is_number hr (by first | decide | omega) (by rfl) passE (pa_cons (pe_ix (ix_seqK (K := K) rfl) (pv 0) pe_int (fun _ _ => rfl)) pa_nil)) (pe_one (pe_cal c_is_number hr (by first | decide | omega) (by rfl) passE (pa_cons (pe_ix (ix_seqK (K := K) rfl) (pv 0) pe_int (fun _ _ => rfl)) pa_nil)))))))), ?_⟩
  · rintro vs H Q E ⟨v, d, rfl, _⟩
    rfl
  · obtain ⟨v, d, rfl, hd, q⟩ := h
    refine ⟨_, rfl, _, .ty "tuple", .type (tyName _), .type "tuple", _, rfl, .ty _, tyX_of hd, kit_ty (kit_isi _ "tuple" (by simp)), ?_⟩
    rw [isi_tuple]
    refine ⟨_, rfl, ifB (fun c => ?_) (fun c => ?_)⟩
    · cases hd with
      | tup hs ha =>
        rename_i a xs ds
        have hlen := DpAll.len ha
        refine ⟨_, rfl, _, _, rfl, .inr ⟨_, hs, rfl⟩, rfl, _, rfl, ifI (fun c2 => ?_) (fun c2 => ?_)⟩
        · have l2 : ds.length = 2 := by omega
          obtain ⟨d0, d1, rfl⟩ : ∃ d0 d1, ds = [d0, d1] := by
            match ds, l2 with
            | [d0, d1], _ => exact ⟨d0, d1, rfl⟩
          obtain ⟨v0, h0, g0⟩ := dpAt2 (i := 0) ha rfl
          obtain ⟨v1, h1, g1⟩ := dpAt2 (i := 1) ha rfl
          refine ⟨_, rfl, .inr (.inl ⟨_, _, _, _, rfl, rfl, hs, atI_nat (j := 0) h0, ?_⟩)⟩
          refine ⟨v0, d0, rfl, g0, _, rfl, ifB (fun c3 => ?_) (fun c3 => ?_)⟩
          · refine ⟨_, rfl, .inr (.inl ⟨_, _, _, _, rfl, rfl, hs, atI_nat (j := 1) h1, ?_⟩)⟩
            refine ⟨v1, d1, rfl, g1, ?_⟩
            have e : isPairD (.tuple [d0, d1]) = isNumD d1 := by
              cases d0 <;> first | (cases c3; done) | (cases d1 <;> rfl)
            rw [← e]
            exact q
          · have e : isPairD (.tuple [d0, d1]) = false := by
              cases d0 <;> first | (cases c3; done) | rfl
            rw [← e]
            exact q
        · have e : isPairD (.tuple ds) = false := by
            match ds, hlen with
            | [], _ => rfl
            | [_], _ => simp [isPairD]
            | [_, _], h => exact absurd (by rw [h]; rfl) c2
            | _ :: _ :: _ :: _, _ => simp [isPairD]
          rw [← e]
          exact q
      | _ => cases c
    · have e : isPairD d = false := by cases d <;> first | rfl | cases c
      rw [← e]
      exact q
/-! ### is_net -/
theorem okFrom_cons {n : Int} {b : Int × Int} {d : PyData} {r : List PyData} (h : isPairD d = false) : okFrom n b (d :: r) = false := by
  cases hh : okFrom n b (d :: r) with
  | false => rfl
  | true =>
    exfalso
    unfold okFrom at hh
    split at hh
    · rename_i e
      cases e
    · rename_i e
      cases e
      cases h
    · cases hh
def sp_is_net (K : PySem.W.Frag) : Sp := fun vs H Q _ => ∃ (v : V) (d : PyData), vs = [v] ∧ Dp K H v d ∧ ∀ H', Same H H' → Q (.bl (isNetD d)) H'
theorem cal_is_net (A : At K mg "is_net" s_is_net) (B : Bi mg) (hM : ∃ t, mg "MOST" = some (.int 40 t)) (c_is_number : Cal P w K mg base 1 "is_number" (sp_is_number K)) (c_is_pair : Cal P w K mg base 2 "is_pair" (sp_is_pair K)) : Cal P w K mg base 3 "is_net" (sp_is_net K) := by
  have nd := sc_is_net.nd
  obtain ⟨tM, c_MOST⟩ := hM
  refine A.cal sc_is_net (fun _ _ _ _ _ _ us hl => match us, hl with | [_], _ => rfl) ?_ fun f cdv A' outer s H vs Q E hr h => ⟨_, (pss_cons (ps_if (PW.pt (pw_or (pt_not (pt_val (pe_callB (call_isiK' (K := K) rfl) (by rfl) B.isinstance (by decide +kernel) (pa_cons (pv 0) (pa_cons (pe_bltn (v := .ty "tuple") (u := .type "tuple") (by rfl) B.tuple (by decide +kernel) rfl) pa_nil))))) (pw_or (pt_cmpR op_ne (pe_callB (call_lenK (K := K) rfl) (by rfl) B.len (by decide +kernel) (pa_cons (pv 0) pa_nil)) pe_int (nomark _)) (pw_or (pt_not (pt_val (pe_cal c_is_number hr (by first | decide | omega) (by rfl) passE (pa_cons (pe_ix (ix_seqK (K := K) rfl) (pv 0) pe_int (fun _ _ => rfl)) pa_nil)))) (pw_or1 (pt_not (pt_val (pe_callB (call_isiK' (K := K) rfl) (by rfl) B.isinstance (by decide +kernel) (pa_cons (pe_ix (ix_seqK (K := K) rfl) (pv 0) pe_int (fun _ _ => rfl)) (pa_cons (pe_bltn (v := .ty "tuple") (u := .type "tuple") (by rfl) B.tuple (by decide +kernel) rfl) pa_nil)))))))))) (pss_one (ps_ret pe_bl)) pss_nil)
  (pss_cons (ps_if (pt_not (pt_chain op_le op_le pe_int (pe_ix (ix_seqK (K := K) rfl) (pv 0) pe_int (fun _ _ => rfl)) (pe_glob (v := .int 40) rfl c_MOST ⟨_, rfl⟩))) (pss_one (ps_ret pe_bl)) pss_nil)
  (pss_cons (ps_set (i := 1) nd rfl (.inl rfl) (pe_tup (pa_cons (pe_un un_neg pe_int) (pa_cons (pe_un un_neg pe_int) pa_nil))))
  (pss_cons (ps_for passOwn rfl (pi_tupK (K := K) rfl (pe_ix (ix_seqK (K := K) rfl) (pv 0) pe_int (fun _ _ => rfl))) (pg_name (i := 2) nd rfl (.inl rfl)) (pss_cons (ps_if (PW.pt (pw_or (pt_not (pt_val (pe_cal c_is_pair hr (by first | decide | omega) (by rfl) passE (pa_cons (pv 2) pa_nil)))) (pw_or (pt_not (pt_chain3 op_le op_lt op_lt pe_int (pe_ix (ix_tupK (K := K) rfl) (pv 2) pe_int (fun _ _ => rfl)) (pe_ix (ix_tupK (K := K) rfl) (pv 2) pe_int (fun _ _ => rfl)) (pe_ix (ix_seqK (K := K) rfl) (pv 0) pe_int (fun _ _ => rfl)))) (pw_or1 (pt_not (pt_cmpR (op_ltTK (K := K) rfl hr.units0) (pv 1) (pv 2) (nomark _))))))) (pss_one (ps_ret pe_bl)) pss_nil)
  (pss_one (ps_set (i := 1) nd rfl (.inl rfl) (pv 2)))))
  (pss_one (ps_ret pe_bl)))))), ?_⟩
  · rintro vs H Q E ⟨v, d, rfl, _⟩
    rfl
  · obtain ⟨v, d, rfl, hd, q⟩ := h
    have no : isNetD d = false → Q (.bl false) H := fun e => by
      rw [← e]
      exact q H (Same.refl H)
    refine ⟨_, rfl, _, .ty "tuple", .type (tyName _), .type "tuple", _, rfl, .ty _, tyX_of hd, kit_ty (kit_isi _ "tuple" (by simp)), ?_⟩
    rw [isi_tuple]
    refine ⟨_, rfl, ?_⟩
    cases hd with
    | tup hs ha =>
      rename_i a xs ds
      have hlen := DpAll.len ha
      refine ⟨_, rfl, _, _, rfl, .inr ⟨_, hs, rfl⟩, rfl, _, rfl, ifNI (fun c2 => ?_) (fun c2 => ?_)⟩
      · refine iteT (no ?_)
        match ds, hlen with
        | [], _ => rfl
        | [_], _ => simp [isNetD]
        | [_, _], h => exact absurd (by rw [h]; rfl) c2
        | _ :: _ :: _ :: _, _ => simp [isNetD]
      · have l2 : ds.length = 2 := by omega
        obtain ⟨d0, d1, rfl⟩ : ∃ d0 d1, ds = [d0, d1] := by
          match ds, l2 with
          | [d0, d1], _ => exact ⟨d0, d1, rfl⟩
        obtain ⟨v0, h0, g0⟩ := dpAt2 (i := 0) ha rfl
        obtain ⟨v1, h1, g1⟩ := dpAt2 (i := 1) ha rfl
        have hx0 : atI xs 0 = some v0 := atI_nat (j := 0) h0
        have hx1 : atI xs 1 = some v1 := atI_nat (j := 1) h1
        refine ⟨_, rfl, .inr (.inl ⟨_, _, _, _, rfl, rfl, hs, hx0, v0, d0, rfl, g0, _, rfl, ?_⟩)⟩
        cases g0 with
        | int n =>
          refine ⟨_, rfl, .inr (.inl ⟨_, _, _, _, rfl, rfl, hs, hx1, _, .ty "tuple", .type (tyName _), .type "tuple", _, rfl, .ty _, tyX_of g1, kit_ty (kit_isi _ "tuple" (by simp)), ?_⟩)⟩
          rw [isi_tuple]
          refine ⟨_, rfl, ?_⟩
          cases g1 with
          | tup ts ta =>
            rename_i a1 us ps
            -- 0 <= x[0] <= MOST
            have bound : ∀ {p : Prop}, ¬ (0 ≤ n ∧ n ≤ 40) → isNetD (.tuple [.int n, .tuple ps]) = false := fun hn => by
              show (decide (0 ≤ n ∧ n ≤ 40) && okFrom n (-1, -1) ps) = false
              rw [decide_eq_false hn]
              rfl
            refine ⟨_, rfl, .inr (.inl ⟨_, _, _, _, rfl, rfl, hs, hx0, _, _, rfl, rfl, _, rfl, ifD (fun c3 => ?_) (fun c3 => ?_)⟩)⟩
            · refine ⟨_, _, rfl, rfl, _, rfl, ifN (fun c4 => ?_) (fun c4 => ?_)⟩
              · exact no (bound (p := True) fun e => by simp at c4; omega)
              · have hn0 : 0 ≤ n ∧ n ≤ 40 := ⟨c3, by simpa using c4⟩
                have en : isNetD (.tuple [.int n, .tuple ps]) = okFrom n (-1, -1) ps := by
                  show (decide (0 ≤ n ∧ n ≤ 40) && okFrom n (-1, -1) ps) = okFrom n (-1, -1) ps
                  rw [decide_eq_true hn0]
                  rfl
                rw [en] at q
                -- before = (-1, -1)
                refine ⟨_, rfl, _, rfl, by show 2 ≤ sizeLine; decide, fun t0 ht0 => ?_⟩
                have s1 := same_laid (o := .tup [.int (-1), .int (-1)]) ht0
                refine ⟨_, rfl, .inr (.inl ⟨_, _, _, _, rfl, rfl, sqT_same s1 hs, hx1, a1, rfl, ⟨_, sqT_same s1 ts⟩, ?_⟩)⟩
                have lu := DpAll.len ta
                refine for_tup (K := K) (a := a1) (xs := us) (fun i σ H1 => H1 = upd H t0 (.tup [.int (-1), .int (-1)]) ∧ ∃ (bt : Addr) (bx bz : Int) (v2 : Option V), σ = [some (.ref a), some (.ref bt), v2] ∧ SqT K H1 bt ([bx, bz].map V.int) ∧ okFrom n (-1, -1) ps = okFrom n (bx, bz) (ps.drop i))
                  ⟨rfl, t0, -1, -1, none, rfl, SqT.of upd_same, rfl⟩ (fun i σ H1 _ ⟨e, _⟩ => by rw [e]; exact sqT_same s1 ts) ?_ ?_
                · rintro i y σ H1 hy ⟨rfl, bt, bx, bz, v2, rfl, hb, eo⟩
                  obtain ⟨dy, hdy, gy⟩ := dpAt ta hy
                  have gy1 := Dp.same s1 _ _ gy
                  have hdrop : ps.drop i = dy :: ps.drop (i + 1) := by
                    rw [List.drop_eq_getElem_cons (List.getElem?_eq_some_iff.mp hdy).1, (List.getElem?_eq_some_iff.mp hdy).2]
                  rw [hdrop] at eo
                  have stop : okFrom n (bx, bz) (dy :: ps.drop (i + 1)) = false → Q (.bl false) (upd H t0 (.tup [.int (-1), .int (-1)])) := fun e => by
                    have := q _ s1
                    rw [eo, e] at this
                    exact this
                  refine ⟨_, rfl, y, dy, rfl, gy1, _, rfl, ifN (fun c5 => ?_) (fun c5 => ?_)⟩
                  · exact stop (okFrom_cons c5)
                  · obtain ⟨x, z, rfl⟩ : ∃ x z, dy = .tuple [.int x, .int z] := by
                      unfold isPairD at c5
                      split at c5
                      · exact ⟨_, _, rfl⟩
                      · cases c5
                    cases gy1 with
                    | tup ys ya =>
                      rename_i ya1 yv
                      obtain ⟨w0, k0, j0⟩ := dpAt2 (i := 0) ya rfl
                      obtain ⟨w1, k1, j1⟩ := dpAt2 (i := 1) ya rfl
                      cases j0
                      cases j1
                      have lyv := DpAll.len ya
                      have eyv : yv = [x, z].map V.int := by
                        match yv, lyv, k0, k1 with
                        | [y0, y1], _, k0, k1 =>
                          have e0 := Option.some.inj k0
                          have e1 := Option.some.inj k1
                          rw [e0, e1]
                          rfl
                      subst eyv
                      have eok : okFrom n (bx, bz) (.tuple [.int x, .int z] :: ps.drop (i + 1)) = ((decide (0 ≤ x ∧ x < z ∧ z < n) && HT.lexLt [bx, bz] [x, z]) && okFrom n (x, z) (ps.drop (i + 1))) := rfl
                      rw [eok] at stop eo
                      have bad : ¬ (0 ≤ x ∧ x < z ∧ z < n) → Q (.bl false) (upd H t0 (.tup [.int (-1), .int (-1)])) := fun e => stop (by rw [decide_eq_false e]; rfl)
                      refine ⟨_, rfl, _, _, _, _, rfl, rfl, ys, rfl, _, _, rfl, rfl, _, rfl, ifD (fun c6 => ?_) (fun c6 => ?_)⟩
                      · refine ⟨_, rfl, _, _, _, _, rfl, rfl, ys, rfl, _, _, rfl, rfl, _, rfl, ifD (fun c7 => ?_) (fun c7 => ?_)⟩
                        · refine ⟨_, rfl, .inr (.inl ⟨_, _, _, _, rfl, rfl, sqT_same s1 hs, hx0, _, _, rfl, rfl, _, rfl, ifN (fun c8 => ?_) (fun c8 => ?_)⟩)⟩
                          · exact bad fun e => by simp at c8; omega
                          · have c8 : z < n := by simpa using c8
                            have good : decide (0 ≤ x ∧ x < z ∧ z < n) = true := decide_eq_true ⟨c6, c7, c8⟩
                            refine ⟨_, rfl, _, rfl, bt, ya1, [bx, bz], [x, z], rfl, rfl, hb, ys, _, rfl, ifN (fun c9 => ?_) (fun c9 => ?_)⟩
                            · exact stop (by rw [good, c9]; rfl)
                            · refine ⟨_, rfl, rfl, ya1, x, z, _, rfl, ys, ?_⟩
                              rw [eo, good, c9]
                              rfl
                        · refine ⟨_, rfl, ?_⟩
                          exact bad fun e => c7 e.2.1
                      · refine ⟨_, rfl, ?_⟩
                        exact bad fun e => c6 e.1
                · rintro σ H1 ⟨rfl, bt, bx, bz, v2, rfl, hb, eo⟩
                  have := q _ s1
                  rw [eo, lu, List.drop_length] at this
                  exact this
            · refine ⟨_, rfl, ?_⟩
              exact no (bound (p := True) fun e => c3 e.1)
          | _ => exact no (by simp [isNetD])
        | _ => exact no (by simp [isNetD])
    | _ => exact no rfl
/-! ### check_net -/
def sp_check_net (K : PySem.W.Frag) (CB : Addr) : Sp := fun vs H Q E => ∃ (v : V) (d : PyData), vs = [v] ∧ Dp K H v d ∧ (isNetD d = true → ∀ H', Same H H' → Q .non H') ∧ (isNetD d = false → ∀ H', Same H H' → E (.ref CB) none H')
theorem cal_check_net {CB : Addr} (A : At K mg "check_net" s_check_net) (x_BadNet : ExcC K mg "BadNet" CB) (c_is_net : Cal P w K mg base 3 "is_net" (sp_is_net K)) : Cal P w K mg base 4 "check_net" (sp_check_net K CB) := by
  have nd := sc_check_net.nd
  refine A.cal sc_check_net (fun _ _ _ _ _ _ us hl => match us, hl with | [_], _ => rfl) ?_ fun f cdv A' outer s H vs Q E hr h => ⟨_, (pss_one (ps_if (pt_not (pt_val (pe_cal c_is_net hr (by first | decide | omega) (by rfl) passE (pa_cons (pv 0) pa_nil)))) (pss_one (ps_raise rfl (takes_of rfl rfl rfl rfl) (pmk_own0 PySem.F.excBase_ValueError x_BadNet.ex x_BadNet.g x_BadNet.kp (raises_own x_BadNet.sub x_BadNet.ty) (by rfl)))) pss_nil)), ?_⟩
  · rintro vs H Q E ⟨v, d, rfl, _⟩
    rfl
  · obtain ⟨v, d, rfl, hd, q1, q2⟩ := h
    refine ⟨_, rfl, v, d, rfl, hd, fun H' sm => ⟨_, rfl, ifN (fun c => ?_) (fun c => ?_)⟩⟩
    · exact q2 c H' sm
    · exact q1 c H' sm
end
end Ns
/-! Own layer J: how many unlike ints a tuple has. -/
namespace Ns
open PySem PySem.Spec PyProof.Rows L2
theorem ints_are : ∀ {ns : List Int} {us : List Value}, Vals (ns.map V.int) us → IntsAre us ns
  | [], _, r => by
    cases r
    exact .nil
  | n :: ns, _, r => by
    cases r with
    | cons r1 r2 =>
      obtain ⟨t, rfl⟩ := r1
      exact .cons n t (ints_are r2)
/-- len(set(xs)), xs a tuple of ints -/
def tLenSetT (K : PySem.W.Frag) (ta : TE) : TE := fun σ H Q => ta σ H fun x H1 => ∃ (l : Addr) (ns : List Int), x = .ref l ∧ SqT K H1 l (ns.map V.int) ∧ ns.length ≤ 2000 ∧ ∀ es : List Int, es.Nodup → (∀ k, k ∈ es ↔ k ∈ ns) → Q (.int es.length) H1
theorem pe_lenSetT {X : Cx} {K : PySem.W.Frag} {a : Expr} {ta : TE} {p p2 q pos : Pos} (hK : X.K = K) (hc : X.calm = true) (hg : Gl X "len") (hm : X.mg "len" = none) (hg2 : Gl X "set") (hm2 : X.mg "set" = none) (ha : PE X a ta)
    (na : starEach [a] X.env = (false, eval a X.env) :: starEach [] X.env := by rfl) : PE X (.Call (.Name "len" p) [.Call (.Name "set" p2) [a] [] q] [] pos) (tLenSetT K ta) := by
  subst hK
  refine ⟨fun pins s σ H Q I h => ?_⟩
  refine Call_ (ld_blt I hg hm boot_len ?_)
  refine PyProof.Rows.callWith_builtin1 (PyProof.Rows.args_cons ?_ rfl) rfl rfl
  refine Call_ (ld_blt I hg2 hm2 boot_set ?_)
  refine PyProof.Rows.callWith_type1 (PyProof.Rows.args_cons (thn (ha.run pins s σ H _ I h) fun v s1 ⟨x, H1, I1, r1, q1⟩ => PyProof.Rows.args_nil ?_) na) na rfl
  obtain ⟨l, ns, rfl, hq, hn, q1⟩ := q1
  cases r1
  obtain ⟨its, r, pl, hz⟩ := I1.tuple hq
  have pl : s1.heap.IsTuple l its.toArray := pl
  refine call_set_tupI ns (I1.ok.hd hc) pl (by simpa using ints_are r) (by show ns.length + 1 < 4096; omega) fun h' tk c R hcn hk => ?_
  obtain ⟨o, es, ep, t, ho, hex, hd, g, nd, hmem, hb, hf, hsz, _⟩ := R
  have I2 : Inv X pins σ H1 { s1 with heap := h', toks := tk } := I1.kept hk
  refine PyProof.Rows.args_nil ?_
  have hl : (es.toList.map keyOf).length = es.size := by rw [List.length_map, Array.length_toList]
  refine call_len_set ho hex hd hf (by omega) ?_
  refine ⟨.int (es.toList.map keyOf).length, H1, I2.tok _, ⟨_, by rw [hl]⟩, ?_⟩
  exact q1 _ nd fun k => by rw [← hmem k]; simp
theorem pe_revLK {X : Cx} {K : PySem.W.Frag} {e : Expr} {te : TE} {k : Nat} {p1 p2 p3 pos : Pos} (hK : X.K = K) (he : PE X e te) :
    PE X (.Subscript e (.Slice none none (some (.UnaryOp .USub (.Constant (.int 1) k p1) p2)) p3) pos) (tRevL K te) := by
  subst hK
  exact pe_revL he
end Ns
/-! Own layer X: neighbours and points, walked. -/
namespace Ns
open PySem PySem.Spec PyProof.Rows L2
local macro_rules | `(tactic| walk_at "look") => `(tactic| first | assumption | exact upd_same | (refine (upd_ne (by first | assumption | exact Ne.symm (by assumption))).trans ?_; walk_at "look"))
local macro_rules | `(tactic| walk_at "cond") => `(tactic| first | assumption | omega | (dsimp only; omega) | exact ⟨by omega, by omega⟩ | decide | exact ⟨by decide, by decide, by decide⟩ | exact .inr ⟨by decide, by decide⟩ | exact .inl ⟨by decide, by decide⟩ | exact .inr ⟨by omega, by omega⟩ | exact .inl ⟨by omega, by omega⟩)
local macro_rules | `(tactic| walk_at "rd1") => `(tactic| first
  | refine ⟨_, rfl, ?_⟩
  | refine ⟨_, _, rfl, rfl, ?_⟩
  | refine ⟨rfl, ?_⟩
  | refine ⟨_, _, rfl, rfl, (by walk_at "cond"), ?_⟩
  | refine ⟨_, _, _, _, rfl, rfl, SqL.of (by walk_at "look"), rfl, ?_⟩
  | refine ⟨_, _, _, _, rfl, rfl, SqT.of (by walk_at "look"), rfl, ?_⟩
  | refine ⟨_, _, _, _, rfl, rfl, (by walk_at "look"), rfl, ?_⟩
  | refine .inl ⟨_, rfl, ?_⟩
  | refine ⟨.inl ⟨rfl, _, SqL.of (by walk_at "look")⟩, ?_⟩
  | refine ⟨_, _, rfl, ⟨by omega, by omega, by omega, by omega⟩, ?_⟩
  | refine ⟨_, rfl, (by omega), (by omega), ?_⟩
  | refine And.intro (by walk_at "cond") ?_)
local macro_rules | `(tactic| walk_at "rd") => `(tactic| repeat (walk_at "rd1"))
abbrev N_neighbours_nets : List Str := ["net", "out", "x", "y", "one"]
theorem sc_neighbours_nets : FnScope N_neighbours_nets ["net"] (defScope s_neighbours_nets) := ⟨rfl, rfl, rfl, by decide +kernel, rfl, by decide +kernel, by decide +kernel⟩
abbrev N_is_point : List Str := ["net", "x"]
theorem sc_is_point : FnScope N_is_point ["net", "x"] (defScope s_is_point) := ⟨rfl, rfl, rfl, by decide +kernel, rfl, by decide +kernel, by decide +kernel⟩
abbrev N_check_points : List Str := ["net", "points", "x"]
theorem sc_check_points : FnScope N_check_points ["net", "points"] (defScope s_check_points) := ⟨rfl, rfl, rfl, by decide +kernel, rfl, by decide +kernel, by decide +kernel⟩
section
variable {P : Program} {w : World} {K : PySem.W.Frag} {mg : Str → Option Value} {base : Heap}
def sp_neighbours : Sp := fun vs H Q _ => ∃ (v : V) (n : Nat) (ties : List (Nat × Nat)), vs = [v] ∧ Net H v n ties ∧ n ≤ 1000 ∧ Good n ties ∧ ties.length ≤ 100000 ∧ ∀ (m : Addr) (H' : Hp), Same H H' → H m = none → Adj H' m n (tieT ties) → Q (.ref m) H'
theorem cal_neighbours (A : AtN K mg "neighbours_nets" "neighbours" s_neighbours_nets) (B : Bi mg) : Cal P w K mg base 1 "neighbours_nets" sp_neighbours := by
  have nd := sc_neighbours_nets.nd
  refine A.cal sc_neighbours_nets (fun _ _ _ _ _ _ us hl => match us, hl with | [_], _ => rfl) ?_ fun f cdv A' outer s H vs Q E hr h => ⟨_, (pss_cons (ps_setLc (i := 1) (own := [("x", 2)]) rfl nd rfl rfl (sw_true rfl rfl rfl (by decide +kernel)) (pi_range1 (by rfl) B.range (pa_cons (pe_ix (ix_tupK (K := K) rfl) (pv 0) pe_int (fun _ _ => rfl)) pa_nil)) (blkOk_by (own := [("x", 2)]) (N := N_neighbours_nets) (sc := defScope s_neighbours_nets) (by decide +kernel)) (fun _ _ _ _ _ => (pg_name (i := 2) nd rfl (.inl rfl) (.inr rfl))) (fun _ _ _ _ _ => pts_nil) (fun _ _ _ _ _ => (pe_lst pa_nil)))
  (pss_cons (ps_for passOwn rfl (pi_tupK (K := K) rfl (pe_ix (ix_tupK (K := K) rfl) (pv 0) pe_int (fun _ _ => rfl))) (pg_tupK (K := K) (n := 2) rfl rfl (pgs_cons (pg_name (i := 2) nd rfl (.inl rfl)) (pgs_cons (pg_name (i := 3) nd rfl (.inl rfl)) pgs_nil))) (pss_cons (ps_expr (pe_bm PySem.F.plainAttrs_list PySem.F.slot_list_append PySem.F.type_list_append mt_append (pe_ix (ix_listK (K := K) rfl) (pv 1) (pv 2) (fun _ _ => rfl)) (pa_cons (pv 3) pa_nil)))
  (pss_one (ps_expr (pe_bm PySem.F.plainAttrs_list PySem.F.slot_list_append PySem.F.type_list_append mt_append (pe_ix (ix_listK (K := K) rfl) (pv 1) (pv 3) (fun _ _ => rfl)) (pa_cons (pv 2) pa_nil))))))
  (pss_one (ps_ret (pe_lc (own := [("one", 4)]) rfl nd (pi_listK (K := K) rfl (pv 1)) (blkOk_by (own := [("one", 4)]) (N := N_neighbours_nets) (sc := defScope s_neighbours_nets) (by decide +kernel)) (fun _ _ _ _ _ => (pg_name (i := 4) nd rfl (.inl rfl) (.inr rfl))) (fun _ _ _ _ _ => pts_nil) (fun _ _ _ _ _ => (pe_callB (cr_sortedIK (K := K) rfl) (by rfl) B.sorted (by decide +kernel) (pa_cons (pv 4) pa_nil)))))))), ?_⟩
  · rintro vs H Q E ⟨v, n, ties, rfl, _⟩
    rfl
  · obtain ⟨v, n, ties, rfl, hN, hn, hg, hlt, q⟩ := h
    obtain ⟨t, u, rfl, h, t2, us, rfl, h2, pr⟩ := hN
    refine ⟨_, rfl, _, _, _, _, rfl, rfl, SqT.of h, rfl, _, rfl, by omega, by omega, fun D hD => ?_⟩
    refine comp_rows (lo := 0) (n := (n : Int).toNat) (sizeBig (by omega)) (fun _ => []) hD ?_ ?_
    · intro i H2 Yes No hi sm2 yes
      exact ⟨rfl, Nat.zero_le _, fun a ha => yes a _ (same_laid ha) ha upd_same⟩
    · intro H2 rows sm2 hy rw
      rw [show ((n : Int)).toNat = n from Int.toNat_natCast n] at rw
      have new := rw.new
      have l0 : LN H2 D rows ((List.range n).map (accL [])) := by
        refine ⟨hy, rw.1, fun h => ?_, ?_⟩
        · obtain ⟨_, _, _, h1, _⟩ := pMemL rw.2 h
          exact h1 rfl
        · have h1 := rw.2
          generalize List.range n = R at h1
          have go : ∀ {rs : List Addr} {R : List Nat}, Paired (fun a c => H2 a = some (.lst c) ∧ a ≠ D ∧ H a = none) rs (R.map fun _ => ([] : List V)) → Paired (fun a (l : List Nat) => H2 a = some (.lst (l.map pI))) rs (R.map (accL [])) := by
            intro rs R hh
            induction R generalizing rs with
            | nil => cases hh; exact .nil
            | cons r R ih =>
              cases hh with
              | cons a b => exact .cons a.1 (ih b)
          exact go h1
      refine ⟨_, rfl, _, _, _, _, rfl, rfl, SqT.of (sm2 _ _ h), rfl, t2, rfl, ⟨_, SqT.of (sm2 _ _ h2)⟩, ?_⟩
      refine for_tup (K := K) (a := t2) (xs := us) (fun i σ H1 => ∃ v2 v3, σ = [some (.ref t), some (.ref D), v2, v3, none] ∧ Same H H1 ∧ LN H1 D rows ((List.range n).map (accL (ties.take i)))) ⟨none, none, rfl, sm2, l0⟩ (fun i σ H1 _ ⟨_, _, _, s1, _⟩ => SqT.of (s1 _ _ h2)) ?_ ?_
      · rintro i x σ H1 hx ⟨v2, v3, rfl, s1, L1⟩
        obtain ⟨p, hp, tp, rfl, ht⟩ := pAtL pr hx
        have hb := hg.1 p (List.mem_of_getElem? hp)
        have hi := (List.getElem?_eq_some_iff.mp hx).1
        have hul := pr.length
        have accb : ∀ z, (accL (ties.take i) z).length < sizeLine := fun z => by
          have h3 := flat_len (fun p : Nat × Nat => (if p.1 = z then [p.2] else []) ++ (if p.2 = z then [p.1] else [])) 2 (fun p => by
            rw [List.length_append]
            split <;> split <;> simp) (ties.take i)
          refine sizeBig (Nat.le_trans h3 ?_)
          rw [List.length_take]
          omega
        refine ⟨tp, _, rfl, SqT.of (s1 _ _ ht), rfl, _, _, rfl, _, _, rfl, rfl, ?_⟩
        obtain ⟨a1, ha1, hr1⟩ := L1.at_ (i := p.1) (l := accL (ties.take i) p.1) (by simp [show p.1 < n by omega])
        refine ⟨_, rfl, _, rfl, _, _, _, .ref a1, rfl, rfl, SqL.of L1.top, atI_nat (j := p.1) ?_, .inl ⟨rfl, _, SqL.of hr1⟩, _, rfl, a1, _, _, rfl, rfl, hr1, by rw [List.length_map]; exact accb _, ?_⟩
        · rw [List.getElem?_map, ha1]
          rfl
        obtain ⟨L2, o2⟩ := L1.put (l' := accL (ties.take i) p.1 ++ [p.2]) ha1
        rw [List.map_append] at L2 o2
        have lk : ((List.range n).map (accL (ties.take i))).length = n := by simp
        obtain ⟨a3, ha3, hr3⟩ := L2.at_ (i := p.2) (l := accL (ties.take i) p.2) (by
          rw [List.getElem?_set]
          rw [if_neg (by omega)]
          simp [hb.2])
        refine ⟨_, rfl, _, rfl, _, _, _, .ref a3, rfl, rfl, SqL.of L2.top, atI_nat (j := p.2) ?_, .inl ⟨rfl, _, SqL.of hr3⟩, _, rfl, a3, _, _, rfl, rfl, hr3, by rw [List.length_map]; exact accb _, ?_⟩
        · rw [List.getElem?_map, ha3]
          rfl
        obtain ⟨L4, o4⟩ := L2.put (l' := accL (ties.take i) p.2 ++ [p.1]) ha3
        rw [List.map_append] at L4 o4
        refine ⟨_, _, rfl, Out.same s1 new (o2.trans o4), ?_⟩
        have e : (((List.range n).map (accL (ties.take i))).set p.1 (accL (ties.take i) p.1 ++ [p.2])).set p.2 (accL (ties.take i) p.2 ++ [p.1]) = (List.range n).map (accL (ties.take (i + 1))) := by
          rw [List.take_add_one, hp]
          apply List.ext_getElem?
          intro k
          rw [List.getElem?_set, List.getElem?_set]
          simp only [List.length_set, lk]
          by_cases hk : k < n
          · have hk2 : ((List.range n).map (accL (ties.take i ++ (some p).toList)))[k]? = some (accL (ties.take i ++ [p]) k) := by simp [hk]
            have hk3 : ((List.range n).map (accL (ties.take i)))[k]? = some (accL (ties.take i) k) := by simp [hk]
            rw [hk2, hk3, accL_snoc]
            by_cases h1 : p.2 = k
            · rw [if_pos h1, if_pos (by omega), if_neg (by omega), if_pos h1, h1]
              rfl
            · rw [if_neg h1, if_neg h1]
              by_cases h3 : p.1 = k
              · rw [if_pos h3, if_pos (by omega), if_pos h3, h3]
                rfl
              · rw [if_neg h3, if_neg h3]
                simp
          · have hk2 : ((List.range n).map (accL (ties.take i ++ (some p).toList)))[k]? = none := by simp; omega
            have hk3 : ((List.range n).map (accL (ties.take i)))[k]? = none := by simp; omega
            rw [hk2, hk3, if_neg (by omega), if_neg (by omega)]
        rw [e] at L4
        exact L4
      · rintro σ H1 ⟨v2, v3, rfl, s1, L1⟩
        rw [pr.length, List.take_length] at L1
        refine ⟨_, rfl, D, rfl, ⟨_, SqL.of L1.top⟩, fun D2 hD2 => ?_⟩
        have lr := L1.pr.length
        rw [List.length_map, List.length_range] at lr
        refine comp_rowsL (K := K) (ds := List.range n) (fun i => (nbL n (tieT ties) i).map pI) (fun H x i => ∃ a, x = V.ref a ∧ H a = some (.lst ((accL ties i).map pI))) hD2 L1.top (by rw [List.length_map, lr]; exact sizeBig (by omega)) (fun H' s => ?_) ?_ ?_
        · have h1 := (L1.same s).pr
          have go : ∀ {rs : List Addr} {R : List Nat}, Paired (fun a (l : List Nat) => H' a = some (.lst (l.map pI))) rs (R.map (accL ties)) → Paired (fun x i => ∃ a, x = V.ref a ∧ H' a = some (.lst ((accL ties i).map pI))) (rs.map V.ref) R := by
            intro rs R hh
            induction R generalizing rs with
            | nil => cases hh; exact .nil
            | cons r R ih =>
              cases hh with
              | cons a b => exact .cons ⟨_, rfl, a⟩ (ih b)
          exact go h1
        · rintro i x H3 Yes No hi ⟨a, rfl, ha⟩ s3 yes
          have hi := List.mem_range.mp hi
          refine ⟨rfl, _, rfl, a, (accL ties i).map fun x : Nat => (x : Int), rfl, ?_, fun ns' p pm so hp => ?_⟩
          · rw [← map_pI]
            exact SqL.of ha
          · have e : ns' = (nbL n (tieT ties) i).map fun x : Nat => (x : Int) := by
              refine sorted_is pm so (accL_nodup i (hg.2.imp fun {a b} h e => by subst e; unfold ltP at h; omega) fun p hp => (hg.1 p hp).1) (nbL_sorted _ _ _) fun k => ?_
              rw [mem_accL, mem_nbL]
              unfold tieT
              rw [decide_eq_true_eq]
              constructor
              · rintro (h | h)
                · exact ⟨(hg.1 _ h).2, .inl h⟩
                · have := hg.1 _ h
                  dsimp only at this
                  exact ⟨by omega, .inr h⟩
              · exact fun h => h.2
            rw [e, ← map_pI]
            exact yes p _ (same_laid hp) hp upd_same
        · intro H3 rows3 s3 hy3 rw3
          refine q D2 H3 (s1.trans s3) (gone s1 hD2) ⟨rows3, hy3, rw3.1, fun h => ?_, ?_⟩
          · obtain ⟨_, _, _, h1, _⟩ := pMemL rw3.2 h
            exact h1 rfl
          · have go : ∀ {rs : List Addr} {R : List Nat}, Paired (fun a c => H3 a = some (.lst c) ∧ a ≠ D2 ∧ H1 a = none) rs (R.map fun i => (nbL n (tieT ties) i).map pI) → Paired (fun a (l : List Nat) => H3 a = some (.lst (l.map pI))) rs (R.map (nbL n (tieT ties))) := by
              intro rs R hh
              induction R generalizing rs with
              | nil => cases hh; exact .nil
              | cons r R ih =>
                cases hh with
                | cons a b => exact .cons a.1 (ih b)
            exact go rw3.2
/-! ### points -/
def sp_is_point : Sp := fun vs H Q _ => ∃ (v : V) (n x : Nat) (ties : List (Nat × Nat)), vs = [v, pI x] ∧ Net H v n ties ∧ Q (.bl (decide (x < n))) H
theorem cal_is_point (A : At K mg "is_point" s_is_point) (B : Bi mg) (c_is_number : Cal P w K mg base 1 "is_number" (sp_is_number K)) : Cal P w K mg base 2 "is_point" sp_is_point := by
  have nd := sc_is_point.nd
  refine A.cal sc_is_point (fun _ _ _ _ _ _ us hl => match us, hl with | [_, _], _ => rfl) ?_ fun f cdv A' outer s H vs Q E hr h => ⟨_, (pss_one (ps_ret (pe_and (pe_cal c_is_number hr (by first | decide | omega) (by rfl) passE (pa_cons (pv 1) pa_nil)) (pe_one (pe_chain op_le op_lt pe_int (pv 1) (pe_ix (ix_tupK (K := K) rfl) (pv 0) pe_int (fun _ _ => rfl))))))), ?_⟩
  · rintro vs H Q E ⟨v, n, x, ties, rfl, _⟩
    rfl
  · obtain ⟨v, n, x, ties, rfl, hN, q⟩ := h
    obtain ⟨t, u, rfl, h, _⟩ := hN
    refine ⟨_, rfl, _, .int (x : Int), rfl, .int _, _, rfl, iteT ?_⟩
    refine ⟨_, rfl, _, _, rfl, rfl, _, rfl, ifD (fun _ => ?_) (fun c => absurd (by omega) c)⟩
    refine ⟨_, rfl, _, _, _, _, rfl, rfl, SqT.of h, rfl, _, _, rfl, rfl, ?_⟩
    have e : decide ((x : Int) < (n : Int)) = decide (x < n) := decide_eq_decide.mpr (by omega)
    rw [← e] at q
    exact q
def sp_check_points : Sp := fun vs H Q _ => ∃ (v : V) (n : Nat) (ties : List (Nat × Nat)) (t : Addr) (xs : List Nat), vs = [v, .ref t] ∧ Net H v n ties ∧ H t = some (.tup (xs.map pI)) ∧ (∀ x ∈ xs, x < n) ∧ xs.Nodup ∧ xs.length ≤ 100 ∧ Q .non H
theorem cal_check_points {CP : Addr} (A : At K mg "check_points" s_check_points) (B : Bi mg) (x_BadPoint : ExcC K mg "BadPoint" CP) (c_is_point : Cal P w K mg base 2 "is_point" sp_is_point) : Cal P w K mg base 3 "check_points" sp_check_points := by
  have nd := sc_check_points.nd
  refine A.cal sc_check_points (fun _ _ _ _ _ _ us hl => match us, hl with | [_, _], _ => rfl) ?_ fun f cdv A' outer s H vs Q E hr h => ⟨_, (pss_cons (ps_for passOwn rfl (pi_tupK (K := K) rfl (pv 1)) (pg_name (i := 2) nd rfl (.inl rfl)) (pss_one (ps_if (pt_not (pt_val (pe_cal c_is_point hr (by first | decide | omega) (by rfl) passE (pa_cons (pv 0) (pa_cons (pv 2) pa_nil))))) (pss_one (ps_raise rfl (takes_of rfl rfl rfl rfl) (pmk_own0 PySem.F.excBase_ValueError x_BadPoint.ex x_BadPoint.g x_BadPoint.kp (raises_own x_BadPoint.sub x_BadPoint.ty) (by rfl)))) pss_nil)))
  (pss_one (ps_if (pt_cmpR op_ne (pe_lenSetT (K := K) rfl rfl (by rfl) B.len (by rfl) B.set_ (pv 1)) (pe_callB (call_lenK (K := K) rfl) (by rfl) B.len (by decide +kernel) (pa_cons (pv 1) pa_nil)) (nomark _)) (pss_one (ps_raise rfl (takes_of rfl rfl rfl rfl) (pmk_own0 PySem.F.excBase_ValueError x_BadPoint.ex x_BadPoint.g x_BadPoint.kp (raises_own x_BadPoint.sub x_BadPoint.ty) (by rfl)))) pss_nil))), ?_⟩
  · rintro vs H Q E ⟨v, n, ties, t, xs, rfl, _⟩
    rfl
  · obtain ⟨v, n, ties, t, xs, rfl, hN, ht, hx, nd2, hl, q⟩ := h
    refine ⟨_, rfl, t, rfl, ⟨_, SqT.of ht⟩, for_tup (K := K) (a := t) (xs := xs.map pI) (fun i σ H1 => ∃ v2, σ = [some v, some (.ref t), v2] ∧ H1 = H) ⟨none, rfl, rfl⟩ (fun i σ H1 _ ⟨_, _, e⟩ => by rw [e]; exact SqT.of ht) ?_ ?_⟩
    · rintro i y σ H1 hy ⟨v2, rfl, rfl⟩
      rw [List.getElem?_map] at hy
      obtain ⟨x, hx1, rfl⟩ := Option.map_eq_some_iff.mp hy
      have hxn := hx x (List.mem_of_getElem? hx1)
      refine ⟨_, rfl, _, rfl, v, n, x, ties, rfl, hN, _, rfl, ?_⟩
      rw [decide_eq_true hxn]
      exact iteF ⟨_, rfl, rfl⟩
    · rintro σ H1 ⟨v2, rfl, rfl⟩
      refine ⟨_, rfl, t, xs.map (fun x : Nat => (x : Int)), rfl, ?_, by rw [List.length_map]; omega, fun es nde hes => ?_⟩
      · rw [← map_pI]
        exact SqT.of ht
      have e : es.length = xs.length := by
        have nd3 : (xs.map fun x : Nat => (x : Int)).Nodup := by
          rw [List.Nodup, List.pairwise_map]
          exact nd2.imp fun {a b} h e => h (by omega)
        have pm := (List.perm_ext_iff_of_nodup nde nd3).mpr hes
        rw [pm.length_eq, List.length_map]
      refine ⟨_, rfl, _, _, rfl, .inr ⟨_, SqT.of ht, rfl⟩, rfl, _, rfl, ifNI (fun c => absurd ?_ c) (fun _ => q)⟩
      rw [e, List.length_map]
end
end Ns
/-! Own layer: comprehensions over tuples of any data, by place; reads of tables by expressions. -/
namespace Ns
open PySem PySem.Spec PyProof.Rows L2
def PtB (_ : Hp) (v : V) (b : Bool) : Prop := v = .bl b
theorem persPtB : PersT PtB := fun _ _ _ _ _ h => h
theorem pairedB_eq {H : Hp} : ∀ {vs : List V} {bs : List Bool}, Paired (PtB H) vs bs → vs = bs.map V.bl
  | _, _, .nil => rfl
  | _, _, .cons h t => by rw [h, pairedB_eq t]; rfl
theorem fm_some {α β : Type} (g : α → β) : ∀ l : List α, (l.filterMap fun x => some (g x)) = l.map g
  | [] => rfl
  | x :: r => by rw [List.filterMap_cons, fm_some g r]; rfl
theorem range_fm_succ {β : Type} (f : Nat → Option β) (i : Nat) : (List.range (i + 1)).filterMap f = (List.range i).filterMap f ++ (f i).toList := by
  rw [List.range_succ, List.filterMap_append]
  cases h : f i <;> simp [h]
section
variable {β : Type} {D : Addr} {g : TG} {tt : TT} {te : TE} {vs : List Nat} {σ : L2.St} {H1 : Hp} {Qd : Hp → Prop}
theorem comp_tupI {K : PySem.W.Frag} {a : Addr} {us : List V} (f : Nat → Option β) {R : Hp → V → β → Prop} (hR : PersT R) (hD : H1 D = none)
    (hl : SqT K H1 a us) (hn : us.length < sizeLine)
    (hs : ∀ (i : Nat) (x : V) (H : Hp) (Yes : V → Hp → Prop) (No : Hp → Prop), us[i]? = some x → Same H1 H → (∀ a, f i = some a → ∀ y H4, Same H H4 → R H4 y a → Yes y H4) → (f i = none → ∀ H4, Same H H4 → No H4) →
      g x (wipe σ vs) H fun σ2 H2 => wipe σ2 vs = wipe σ vs ∧ tt σ2 H2 fun b H3 => if b = true then te σ2 H3 Yes else No H3)
    (hd : ∀ H ys, Same H1 H → H D = some (.lst ys) → Paired (R H) ys ((List.range us.length).filterMap f) → Qd H) :
    ∃ W : Nat → Nat → Hp → Prop, (∃ m, W 0 m (upd H1 D (.lst []))) ∧ ∀ i m H, W i m H →
      ((Itt K a).stop i H ∧ Qd H) ∨ ((Itt K a).go i H ∧ ∃ Nx : Hp → Prop, (∀ H', Nx H' → ∃ m', m' < m ∧ W (i + 1) m' H') ∧ ∀ x H', (Itt K a).yld i H x H' → g x (wipe σ vs) H' fun σ2 H2 => wipe σ2 vs = wipe σ vs ∧ tt σ2 H2 fun b H3 =>
        if b = true then te σ2 H3 fun y H4 => ∃ acc, H4 D = some (.lst acc) ∧ acc.length < sizeLine ∧ Nx (upd H4 D (.lst (acc ++ [y]))) else Nx H3) := by
  refine lc_tup (K := K) (a := a) (xs := us) (fun i H => Same H1 H ∧ ∃ ys, H D = some (.lst ys) ∧ Paired (R H) ys ((List.range i).filterMap f)) ⟨same_laid hD, [], upd_same, by simpa using Paired.nil⟩ (fun i H _ p => sqT_same p.1 hl) ?_ ?_
  · rintro i x H hi ⟨sm, ys, hy, pr⟩
    have hil := (List.getElem?_eq_some_iff.mp hi).1
    have hll : ys.length < sizeLine := by
      have := pr.length
      have h2 := List.length_filterMap_le f (List.range i)
      rw [List.length_range] at h2
      omega
    refine hs i x H _ _ hi sm (fun a ha y H4 s4 r4 => ?_) (fun ha H4 s4 => ?_)
    · refine ⟨ys, s4 _ _ hy, hll, sPut (sm.trans s4) hD, ys ++ [y], upd_same, ?_⟩
      rw [range_fm_succ, ha]
      have k : KeepT H4 (upd H4 D (.lst (ys ++ [y]))) := KeepT.lst (s4 _ _ hy)
      exact pApp (pMono hR (KeepT.trans (sKt s4) k) pr) (.cons (hR _ _ _ _ k r4) .nil)
    · refine ⟨sm.trans s4, ys, s4 _ _ hy, ?_⟩
      rw [range_fm_succ, ha]
      simpa using pMono hR (sKt s4) pr
  · rintro H ⟨sm, ys, hy, pr⟩
    exact hd H ys sm hy pr
end
section
variable {K : PySem.W.Frag} {H : Hp} {m : Addr} {rows : List Addr} {n : Nat} {T : Tm} {σ : L2.St} {Q : VK}
/-- m[..][..] -/
theorem rdMx {i x y : Nat} {t1 t2 : TE} (M : Mat H m rows n T) (hm : σ[i]? = some (some (.ref m))) (lx : x < n) (ly : y < n) (h1 : ∀ Q : VK, Q (pI x) H → t1 σ H Q) (h2 : ∀ Q : VK, Q (pI y) H → t2 σ H Q) (q : Q (.bl (T x y)) H) :
    tOp (rIxL K) (tOp (rIxL K) (tVar i) t1) t2 σ H Q := by
  obtain ⟨a, ha, hr⟩ := M.row lx
  refine ⟨_, hm, h1 _ ⟨_, _, _, .ref a, rfl, rfl, SqL.of M.top, atI_nat (j := x) ?_, h2 _ ⟨_, _, _, _, rfl, rfl, SqL.of hr, atI_nat (j := y) (rowV_at ly), q⟩⟩⟩
  rw [List.getElem?_map, ha]
  rfl
end
theorem atI_neg {α : Type} {xs : List α} {v : α} {j k : Nat} (h : xs[j]? = some v) (e : j + k = xs.length) (hk : 0 < k) : atI xs (-(k : Int)) = some v := by
  have hj := (List.getElem?_eq_some_iff.mp h).1
  unfold atI ixN
  rw [if_neg (by omega), if_pos (by omega)]
  show xs[((-(k : Int)) + (xs.length : Int)).toNat]? = some v
  rw [show ((-(k : Int)) + (xs.length : Int)).toNat = j by omega]
  exact h
/-- the place before k, round -/
def prv (xs : List Nat) (k : Nat) : Nat := xs.getD ((k + xs.length - 1) % xs.length) 0
theorem atI_prev {xs : List Nat} {k : Nat} (hk : k < xs.length) : atI (xs.map pI) ((k : Int) - 1) = some (pI (prv xs k)) := by
  unfold prv
  by_cases e : k = 0
  · subst e
    have hl : (0 + xs.length - 1) % xs.length = xs.length - 1 := by rw [Nat.mod_eq_of_lt (by omega)]; omega
    rw [hl]
    have h : (xs.map pI)[xs.length - 1]? = some (pI (xs.getD (xs.length - 1) 0)) := by
      rw [List.getElem?_map, List.getElem?_eq_getElem (by omega), List.getD_eq_getElem?_getD, List.getElem?_eq_getElem (by omega)]
      rfl
    exact atI_neg (k := 1) h (by rw [List.length_map]; omega) (by omega)
  · have hl : (k + xs.length - 1) % xs.length = k - 1 := by
      rw [show k + xs.length - 1 = (k - 1) + xs.length by omega, Nat.add_mod_right, Nat.mod_eq_of_lt (by omega)]
    rw [hl]
    have h : (xs.map pI)[k - 1]? = some (pI (xs.getD (k - 1) 0)) := by
      rw [List.getElem?_map, List.getElem?_eq_getElem (by omega), List.getD_eq_getElem?_getD, List.getElem?_eq_getElem (by omega)]
      rfl
    have := atI_nat h
    rwa [show ((k - 1 : Nat) : Int) = (k : Int) - 1 by omega] at this
theorem prv_mem {xs : List Nat} {k : Nat} (hk : k < xs.length) : prv xs k ∈ xs := by
  unfold prv
  have h : (k + xs.length - 1) % xs.length < xs.length := Nat.mod_lt _ (by omega)
  rw [List.getD_eq_getElem?_getD, List.getElem?_eq_getElem h]
  exact List.getElem_mem h
theorem getD_mem {xs : List Nat} {k : Nat} (hk : k < xs.length) : xs.getD k 0 ∈ xs := by
  rw [List.getD_eq_getElem?_getD, List.getElem?_eq_getElem hk]
  exact List.getElem_mem hk
theorem atI_getD {xs : List Nat} {k : Nat} (hk : k < xs.length) : atI (xs.map pI) (k : Int) = some (pI (xs.getD k 0)) := by
  refine atI_nat ?_
  rw [List.getElem?_map, List.getElem?_eq_getElem hk, List.getD_eq_getElem?_getD, List.getElem?_eq_getElem hk]
  rfl
end Ns
/-! Own layer: arrows that force one another, walked. -/
namespace Ns
open PySem PySem.Spec PyProof.Rows L2
local macro_rules | `(tactic| walk_at "look") => `(tactic| first | assumption | exact upd_same | (refine (upd_ne (by first | assumption | exact Ne.symm (by assumption))).trans ?_; walk_at "look"))
local macro_rules | `(tactic| walk_at "cond") => `(tactic| first | assumption | omega | (dsimp only; omega) | exact ⟨by omega, by omega⟩ | decide | exact ⟨by decide, by decide, by decide⟩ | exact .inr ⟨by decide, by decide⟩ | exact .inl ⟨by decide, by decide⟩ | exact .inr ⟨by omega, by omega⟩ | exact .inl ⟨by omega, by omega⟩)
local macro_rules | `(tactic| walk_at "rd1") => `(tactic| first
  | refine ⟨_, rfl, ?_⟩
  | refine ⟨_, _, rfl, rfl, ?_⟩
  | refine ⟨rfl, ?_⟩
  | refine ⟨_, _, rfl, rfl, (by walk_at "cond"), ?_⟩
  | refine ⟨_, _, _, _, rfl, rfl, SqL.of (by walk_at "look"), rfl, ?_⟩
  | refine ⟨_, _, _, _, rfl, rfl, SqT.of (by walk_at "look"), rfl, ?_⟩
  | refine ⟨_, _, _, _, rfl, rfl, (by walk_at "look"), rfl, ?_⟩
  | refine .inl ⟨_, rfl, ?_⟩
  | refine ⟨.inl ⟨rfl, _, SqL.of (by walk_at "look")⟩, ?_⟩
  | refine ⟨_, _, rfl, ⟨by omega, by omega, by omega, by omega⟩, ?_⟩
  | refine ⟨_, rfl, (by omega), (by omega), ?_⟩
  | refine And.intro (by walk_at "cond") ?_)
local macro_rules | `(tactic| walk_at "rd") => `(tactic| repeat (walk_at "rd1"))
abbrev N_neighbours_arrows : List Str := ["net", "rows", "a", "b", "_"]
theorem sc_neighbours_arrows : FnScope N_neighbours_arrows ["net"] (defScope s_neighbours_arrows) := ⟨rfl, rfl, rfl, by decide +kernel, rfl, by decide +kernel, by decide +kernel⟩
abbrev N_forced : List Str := ["near", "arrow", "a", "b", "out", "c"]
theorem sc_forced : FnScope N_forced ["near", "arrow"] (defScope s_forced) := ⟨rfl, rfl, rfl, by decide +kernel, rfl, by decide +kernel, by decide +kernel⟩
/-- a list of dicts whose keys are points -/
structure DN (H : Hp) (m : Addr) (rows : List Addr) (n : Nat) (Ls : Nat → List Nat) : Prop where
  top : H m = some (.lst (rows.map V.ref))
  len : rows.length = n
  nd : rows.Nodup
  at_ : ∀ i a, rows[i]? = some a → H a = some (.dK (ldK (Ls i)))
theorem DN.same {H H' : Hp} {m : Addr} {rows : List Addr} {n : Nat} {Ls : Nat → List Nat} (x : DN H m rows n Ls) (s : Same H H') : DN H' m rows n Ls :=
  ⟨s _ _ x.top, x.len, x.nd, fun i a h => s _ _ (x.at_ i a h)⟩
theorem DN.row {H : Hp} {m : Addr} {rows : List Addr} {n : Nat} {Ls : Nat → List Nat} (x : DN H m rows n Ls) {i : Nat} (h : i < n) : ∃ a, rows[i]? = some a ∧ H a = some (.dK (ldK (Ls i))) := by
  have hi : i < rows.length := by rw [x.len]; exact h
  exact ⟨rows[i], List.getElem?_eq_getElem hi, x.at_ i _ (List.getElem?_eq_getElem hi)⟩
theorem DN.off {H : Hp} {m : Addr} {rows : List Addr} {n : Nat} {Ls : Nat → List Nat} (x : DN H m rows n Ls) : m ∉ rows := fun h => by
  obtain ⟨i, hi⟩ := List.getElem?_of_mem h
  have := x.at_ i m hi
  rw [x.top] at this
  cases this
theorem DN.put {H : Hp} {m a : Addr} {rows : List Addr} {n i : Nat} {Ls : Nat → List Nat} (x : DN H m rows n Ls) (h : rows[i]? = some a) (L : List Nat) : DN (upd H a (.dK (ldK L))) m rows n (fun j => if j = i then L else Ls j) ∧ Out rows H (upd H a (.dK (ldK L))) := by
  have ham := List.mem_of_getElem? h
  refine ⟨⟨?_, x.len, x.nd, fun j b hb => ?_⟩, fun b o hb hn => ?_⟩
  · rw [upd_ne (fun e => x.off (by rw [e]; exact ham))]
    exact x.top
  · by_cases e : j = i
    · subst e
      have : a = b := Option.some.inj (h.symm.trans hb)
      subst this
      rw [upd_same, if_pos rfl]
    · have hne : b ≠ a := fun e2 => by
        subst e2
        exact e ((List.getElem?_inj (List.getElem?_eq_some_iff.mp hb).1 x.nd).mp (hb.trans h.symm))
      rw [upd_ne hne, if_neg e]
      exact x.at_ j b hb
  · rw [upd_ne (fun e => hn (by rw [e]; exact ham))]
    exact hb
/-- what a lock behind which nothing old changes leaves -/
theorem lock_back {H H5 : Hp} {d : Addr} {o : Obj} {kk : List (Key × V)} (hd : H d = some (.dK kk)) (s : Same (upd H d (.frz o (.dK kk))) H5) : Same H (upd H5 d (.dK kk)) := fun a u hu => by
  by_cases e : a = d
  · subst e
    rw [upd_same, ← hd]
    exact hu
  · rw [upd_ne e]
    exact s _ _ (by rw [upd_ne e]; exact hu)
/-- rows that tell a net's ties -/
structure Tells (n : Nat) (Ls : Nat → List Nat) (E : Ar) : Prop where
  mem : ∀ x y, x < n → (y ∈ Ls x ↔ E x y)
  nd : ∀ x, x < n → (Ls x).Nodup
  lt : ∀ x y, E x y → x < n ∧ y < n
theorem Tells.len {n : Nat} {Ls : Nat → List Nat} {E : Ar} (t : Tells n Ls E) {x : Nat} (h : x < n) : (Ls x).length ≤ n := by
  have := sub_len (Ls x) (List.range n) (t.nd x h) fun y hy => List.mem_range.mpr (t.lt x y ((t.mem x y h).mp hy)).2
  rwa [List.length_range] at this
section
variable {P : Program} {w : World} {K : PySem.W.Frag} {mg : Str → Option Value} {base : Heap}
def tieE (ties : List (Nat × Nat)) : Ar := fun x y => tieT ties x y = true
theorem tieE_und {n : Nat} {ties : List (Nat × Nat)} (hg : Good n ties) : Und (tieE ties) := ⟨fun {x y} h => by
    have h : tieT ties x y = true := h
    rw [tieT_sym] at h
    exact h, fun {x} h => by
    have h : tieT ties x x = true := h
    rw [tieT_irr hg] at h
    cases h⟩
theorem tieE_lt {n : Nat} {ties : List (Nat × Nat)} (hg : Good n ties) {x y : Nat} (h : tieE ties x y) : x < n ∧ y < n := by
  have h : (x, y) ∈ ties ∨ (y, x) ∈ ties := of_decide_eq_true h
  rcases h with h | h
  · have := hg.1 _ h
    dsimp only at this
    omega
  · have := hg.1 _ h
    dsimp only at this
    omega
def sp_nearA : Sp := fun vs H Q _ => ∃ (v : V) (n : Nat) (ties : List (Nat × Nat)), vs = [v] ∧ Net H v n ties ∧ n ≤ 40 ∧ Good n ties ∧ ∀ (m : Addr) (rows : List Addr) (Ls : Nat → List Nat) (H' : Hp), Same H H' → H m = none → (∀ a ∈ rows, H a = none) → DN H' m rows n Ls → Tells n Ls (tieE ties) → Q (.ref m) H'
theorem cal_nearA (A : AtN K mg "neighbours_arrows" "neighbours" s_neighbours_arrows) (B : Bi mg) : Cal P w K mg base 1 "neighbours_arrows" sp_nearA := by
  have nd := sc_neighbours_arrows.nd
  refine A.cal sc_neighbours_arrows (fun _ _ _ _ _ _ us hl => match us, hl with | [_], _ => rfl) ?_ fun f cdv A' outer s H vs Q E hr h => ⟨_, (pss_cons (ps_setLc (i := 1) (own := [("_", 4)]) rfl nd rfl rfl (sw_true rfl rfl rfl (by decide +kernel)) (pi_range1 (by rfl) B.range (pa_cons (pe_ix (ix_tupK (K := K) rfl) (pv 0) pe_int (fun _ _ => rfl)) pa_nil)) (blkOk_by (own := [("_", 4)]) (N := N_neighbours_arrows) (sc := defScope s_neighbours_arrows) (by decide +kernel)) (fun _ _ _ _ _ => (pg_name (i := 4) nd rfl (.inl rfl) (.inr rfl))) (fun _ _ _ _ _ => pts_nil) (fun _ _ _ _ _ => pe_dnewK))
  (pss_cons (ps_for passOwn rfl (pi_tupK (K := K) rfl (pe_ix (ix_tupK (K := K) rfl) (pv 0) pe_int (fun _ _ => rfl))) (pg_tupK (K := K) (n := 2) rfl rfl (pgs_cons (pg_name (i := 2) nd rfl (.inl rfl)) (pgs_cons (pg_name (i := 3) nd rfl (.inl rfl)) pgs_nil))) (pss_cons (ps_dput (hu_of hr) (pe_ix (ix_listK (K := K) rfl) (pv 1) (pv 2) (fun _ _ => rfl)) (pv 3) pe_bl rfl)
  (pss_one (ps_dput (hu_of hr) (pe_ix (ix_listK (K := K) rfl) (pv 1) (pv 3) (fun _ _ => rfl)) (pv 2) pe_bl rfl))))
  (pss_one (ps_ret (pv 1))))), ?_⟩
  · rintro vs H Q E ⟨v, n, ties, rfl, _⟩
    rfl
  · obtain ⟨v, n, ties, rfl, hN, hn, hg, q⟩ := h
    obtain ⟨t, u, rfl, h, t2, us, rfl, h2, pr⟩ := hN
    have h : H t = some (.tup [pI n, .ref t2]) := h
    refine ⟨_, rfl, _, _, _, _, rfl, rfl, SqT.of h, rfl, _, rfl, by omega, by omega, fun D hD => ?_⟩
    have key : ∀ {H4 : Hp} {i : Nat} {rs : List Addr} {a : Addr}, H4 D = some (.lst (rs.map V.ref)) → rs.length = i → (∀ a ∈ rs, H4 a = some (.dK []) ∧ H a = none) → rs.Nodup → Same H H4 → H4 a = none →
        (upd (upd H4 a (.dK [])) D (.lst (rs.map V.ref ++ [.ref a]))) D = some (.lst ((rs ++ [a]).map V.ref)) ∧ (∀ b ∈ rs ++ [a], (upd (upd H4 a (.dK [])) D (.lst (rs.map V.ref ++ [.ref a]))) b = some (.dK []) ∧ H b = none) ∧ (rs ++ [a]).Nodup := fun {H4 i rs a} hd hl hr2 hnd s4 ha => by
      have haD : a ≠ D := fun e => by rw [e, hd] at ha; cases ha
      have hrD : ∀ b ∈ rs, b ≠ D := fun b hb e => by have := (hr2 b hb).1; rw [e, hd] at this; cases this
      refine ⟨by rw [upd_same, List.map_append]; rfl, fun b hb => ?_, List.nodup_append.mpr ⟨hnd, by simp, fun x hx y hy e => ?_⟩⟩
      · rcases List.mem_append.mp hb with hb | hb
        · rw [upd_ne (hrD b hb), upd_ne (fun e => by have := (hr2 b hb).1; rw [e, ha] at this; cases this)]
          exact hr2 b hb
        · rw [List.mem_singleton.mp hb, upd_ne haD, upd_same]
          exact ⟨rfl, gone s4 ha⟩
      · rw [List.mem_singleton.mp hy] at e
        have := (hr2 x hx).1
        rw [e, ha] at this
        cases this
    refine lc_range (lo := 0) (n := (n : Int).toNat) (fun i H4 => Same H H4 ∧ ∃ rs : List Addr, H4 D = some (.lst (rs.map V.ref)) ∧ rs.length = i ∧ (∀ a ∈ rs, H4 a = some (.dK []) ∧ H a = none) ∧ rs.Nodup) ⟨same_laid hD, [], upd_same, rfl, (fun a h => nomatch h), List.nodup_nil⟩ ?_ ?_
    · rintro i H4 hi ⟨s4, rs, hd, hl, hr2, hnd⟩
      refine ⟨rfl, fun a ha => ?_⟩
      have haD : a ≠ D := fun e => by rw [e, hd] at ha; cases ha
      obtain ⟨k1, k2, k3⟩ := key hd hl hr2 hnd s4 ha
      exact ⟨rs.map V.ref, by rw [upd_ne haD.symm]; exact hd, by rw [List.length_map]; exact sizeBig (by omega), sPut (sNew s4 ha) hD, rs ++ [a], k1, by rw [List.length_append, hl]; rfl, k2, k3⟩
    · rintro H4 ⟨s4, rs, hd, hl, hr2, hnd⟩
      have D0 : DN H4 D rs n (fun _ => []) := ⟨hd, by omega, hnd, fun i a hia => (hr2 a (List.mem_of_getElem? hia)).1⟩
      have hnew : ∀ a ∈ rs, H a = none := fun a ha => (hr2 a ha).2
      refine ⟨_, rfl, _, _, _, _, rfl, rfl, SqT.of (s4 _ _ h), rfl, t2, rfl, ⟨_, SqT.of (s4 _ _ h2)⟩, ?_⟩
      refine for_tup (K := K) (a := t2) (xs := us) (fun i σ H5 => ∃ v2 v3 Ls, σ = [some (.ref t), some (.ref D), v2, v3, none] ∧ Same H H5 ∧ DN H5 D rs n Ls ∧ Tells n Ls (tieE (ties.take i))) ⟨none, none, _, rfl, s4, D0, ⟨fun x y _ => ?_, fun _ _ => List.nodup_nil, fun x y e => ?_⟩⟩ (fun i σ H5 _ ⟨_, _, _, _, s5, _⟩ => SqT.of (s5 _ _ h2)) ?_ ?_
      · exact ⟨(fun h => nomatch h), fun h => by have h : (x, y) ∈ [] ∨ (y, x) ∈ [] := of_decide_eq_true h; rcases h with h | h <;> cases h⟩
      · have e : (x, y) ∈ [] ∨ (y, x) ∈ [] := of_decide_eq_true e
        rcases e with h | h <;> cases h
      · rintro i x σ H5 hx ⟨v2, v3, Ls, rfl, s5, D5, T5⟩
        obtain ⟨p, hp, tp, rfl, htp⟩ := pAtL pr hx
        have hb := hg.1 p (List.mem_of_getElem? hp)
        have hnm : p ∉ ties.take i := fun hm => by
          obtain ⟨j, hj⟩ := List.getElem?_of_mem hm
          rw [List.getElem?_take] at hj
          split at hj
          · rename_i hji
            have ndt : ties.Nodup := hg.2.imp fun {a b} h e => by subst e; unfold ltP at h; omega
            have := (List.getElem?_inj (List.getElem?_eq_some_iff.mp hj).1 ndt).mp (hj.trans hp.symm)
            omega
          · cases hj
        have hsub : ∀ q ∈ ties.take i, q.1 < q.2 := fun q hq => (hg.1 q (List.mem_of_mem_take hq)).1
        have n12 : p.2 ∉ Ls p.1 := fun hm => by
          have : (p.1, p.2) ∈ ties.take i ∨ (p.2, p.1) ∈ ties.take i := of_decide_eq_true ((T5.mem _ _ (by omega)).mp hm)
          rcases this with h | h
          · exact hnm h
          · have := hsub _ h; dsimp only at this; omega
        have n21 : p.1 ∉ Ls p.2 := fun hm => by
          have : (p.2, p.1) ∈ ties.take i ∨ (p.1, p.2) ∈ ties.take i := of_decide_eq_true ((T5.mem _ _ hb.2).mp hm)
          rcases this with h | h
          · have := hsub _ h; dsimp only at this; omega
          · exact hnm h
        refine ⟨tp, _, rfl, SqT.of (s5 _ _ htp), rfl, _, _, rfl, _, _, rfl, rfl, ?_⟩
        obtain ⟨a1, ha1, hr1⟩ := D5.row (i := p.1) (by omega)
        have l1 := T5.len (x := p.1) (by omega)
        obtain ⟨D6, o6⟩ := D5.put ha1 (Ls p.1 ++ [p.2])
        refine ⟨_, rfl, _, rfl, _, _, _, .ref a1, rfl, rfl, SqL.of D5.top, atI_nat (j := p.1) (by rw [List.getElem?_map, ha1]; rfl), _, rfl, a1, _, rfl, DPut.k (k := .inl (p.2 : Int)) hr1 (by rw [ldK_len]; exact sizeBig (by omega)), ?_⟩
        rw [ldK_put n12]
        obtain ⟨a2, ha2, hr2⟩ := D6.row (i := p.2) hb.2
        rw [if_neg (show ¬ p.2 = p.1 by omega)] at hr2
        have l2 := T5.len (x := p.2) hb.2
        obtain ⟨D7, o7⟩ := D6.put ha2 (Ls p.2 ++ [p.1])
        refine ⟨_, rfl, _, rfl, _, _, _, .ref a2, rfl, rfl, SqL.of D6.top, atI_nat (j := p.2) (by rw [List.getElem?_map, ha2]; rfl), _, rfl, a2, _, rfl, DPut.k (k := .inl (p.1 : Int)) hr2 (by rw [ldK_len]; exact sizeBig (by omega)), ?_⟩
        rw [ldK_put n21]
        refine ⟨_, _, _, rfl, Out.same s5 hnew (o6.trans o7), D7, ⟨fun x y hxn => ?_, fun x hxn => ?_, fun x y e => ?_⟩⟩
        · have et : tieE (ties.take (i + 1)) x y ↔ tieE (ties.take i) x y ∨ (x = p.1 ∧ y = p.2) ∨ (x = p.2 ∧ y = p.1) := by
            have e1 : ties.take (i + 1) = ties.take i ++ [p] := by rw [List.take_add_one, hp]; rfl
            rw [e1]
            show decide _ = true ↔ decide _ = true ∨ _
            rw [decide_eq_true_eq, decide_eq_true_eq, List.mem_append, List.mem_append, List.mem_singleton, List.mem_singleton, Prod.ext_iff, Prod.ext_iff]
            dsimp only
            constructor
            · rintro ((h | h) | (h | h))
              · exact .inl (.inl h)
              · exact .inr (.inl h)
              · exact .inl (.inr h)
              · exact .inr (.inr ⟨h.2, h.1⟩)
            · rintro ((h | h) | (h | h))
              · exact .inl (.inl h)
              · exact .inr (.inl h)
              · exact .inl (.inr h)
              · exact .inr (.inr ⟨h.2, h.1⟩)
          rw [et, ← T5.mem x y hxn]
          by_cases e2 : x = p.2
          · rw [if_pos e2, List.mem_append, List.mem_singleton, ← e2]
            constructor
            · rintro (h | h)
              · exact .inl h
              · exact .inr (.inr ⟨rfl, h⟩)
            · rintro (h | ⟨h, _⟩ | ⟨_, h⟩)
              · exact .inl h
              · omega
              · exact .inr h
          · rw [if_neg e2]
            by_cases e1 : x = p.1
            · rw [if_pos e1, List.mem_append, List.mem_singleton, ← e1]
              constructor
              · rintro (h | h)
                · exact .inl h
                · exact .inr (.inl ⟨rfl, h⟩)
              · rintro (h | ⟨_, h⟩ | ⟨h, _⟩)
                · exact .inl h
                · exact .inr h
                · exact absurd h e2
            · rw [if_neg e1]
              exact ⟨.inl, fun h => h.elim id fun h => h.elim (fun h => absurd h.1 e1) fun h => absurd h.1 e2⟩
        · by_cases e2 : x = p.2
          · rw [if_pos e2]
            exact List.nodup_append.mpr ⟨T5.nd _ hb.2, by simp, fun a ha b hb e => n21 (by rw [← List.mem_singleton.mp hb, ← e]; exact ha)⟩
          · rw [if_neg e2]
            by_cases e1 : x = p.1
            · rw [if_pos e1]
              exact List.nodup_append.mpr ⟨T5.nd _ (by omega), by simp, fun a ha b hb e => n12 (by rw [← List.mem_singleton.mp hb, ← e]; exact ha)⟩
            · rw [if_neg e1]
              exact T5.nd x hxn
        · exact tieE_lt (n := n) ⟨fun q hq => hg.1 q (List.mem_of_mem_take hq), hg.2.sublist (List.take_sublist _ _)⟩ e
      · rintro σ H5 ⟨v2, v3, Ls, rfl, s5, D5, T5⟩
        rw [pr.length, List.take_length] at T5
        exact ⟨_, rfl, q D rs Ls H5 s5 hD hnew D5 T5⟩
def sp_forced : Sp := fun vs H Q _ => ∃ (m : Addr) (rows : List Addr) (n : Nat) (Ls : Nat → List Nat) (E : Ar) (v : V) (a b : Nat), vs = [.ref m, v] ∧ DN H m rows n Ls ∧ Tells n Ls E ∧ Und E ∧ n ≤ 40 ∧ Pr H v (a, b) ∧ E a b ∧
  ∀ (p : Addr) (us : List V) (ps : List (Nat × Nat)) (H' : Hp), Same H H' → H p = none → H' p = some (.lst us) → Paired (Pr H') us ps → (∀ q, q ∈ ps ↔ Frc E a b q.1 q.2) → ps.length ≤ 80 → Q (.ref p) H'
theorem cal_forced (A : At K mg "forced" s_forced) (B : Bi mg) : Cal P w K mg base 1 "forced" sp_forced := by
  have nd := sc_forced.nd
  refine A.cal sc_forced (fun _ _ _ _ _ _ us hl => match us, hl with | [_, _], _ => rfl) ?_ fun f cdv A' outer s H vs Q E0 hr h => ⟨_, (pss_cons (ps_asg (pv 1) (pg_tupK (K := K) (n := 2) rfl rfl (pgs_cons (pg_name (i := 2) nd rfl (.inl rfl)) (pgs_cons (pg_name (i := 3) nd rfl (.inl rfl)) pgs_nil))))
  (pss_cons (ps_set (i := 4) nd rfl (.inl rfl) (pe_lst pa_nil))
  (pss_cons (ps_lock (ps_for passOwn rfl (pi_keys (pe_ix (ix_listK (K := K) rfl) (pv 0) (pv 2) (fun _ _ => rfl))) (pg_name (i := 5) nd rfl (.inl rfl)) (pss_one (ps_if (PW.pt (pw_and (pt_cmpR op_ne (pv 5) (pv 3) (nomark _)) (pw_and1 (pt_cmp (pc_dnotin (hu_of hr) (pv 5) (pe_ix (ix_listK (K := K) rfl) (pv 0) (pv 3) (fun _ _ => rfl))) rfl)))) (pss_one (ps_expr (pe_bm PySem.F.plainAttrs_list PySem.F.slot_list_append PySem.F.type_list_append mt_append (pv 4) (pa_cons (pe_tup (pa_cons (pv 2) (pa_cons (pv 5) pa_nil))) pa_nil)))) pss_nil))))
  (pss_cons (ps_lock (ps_for passOwn rfl (pi_keys (pe_ix (ix_listK (K := K) rfl) (pv 0) (pv 3) (fun _ _ => rfl))) (pg_name (i := 5) nd rfl (.inl rfl)) (pss_one (ps_if (PW.pt (pw_and (pt_cmpR op_ne (pv 5) (pv 2) (nomark _)) (pw_and1 (pt_cmp (pc_dnotin (hu_of hr) (pv 5) (pe_ix (ix_listK (K := K) rfl) (pv 0) (pv 2) (fun _ _ => rfl))) rfl)))) (pss_one (ps_expr (pe_bm PySem.F.plainAttrs_list PySem.F.slot_list_append PySem.F.type_list_append mt_append (pv 4) (pa_cons (pe_tup (pa_cons (pv 5) (pa_cons (pv 3) pa_nil))) pa_nil)))) pss_nil))))
  (pss_one (ps_ret (pv 4))))))), ?_⟩
  · rintro vs H Q E ⟨m, rows, n, Ls, E, v, a, b, rfl, _⟩
    rfl
  · obtain ⟨m, rows, n, Ls, E, v, a, b, rfl, D, T, U, hn, ⟨t, rfl, ht⟩, hab, q⟩ := h
    obtain ⟨ha, hb⟩ := T.lt a b hab
    refine ⟨_, rfl, t, _, rfl, SqT.of ht, rfl, _, _, rfl, _, _, rfl, rfl, ?_⟩
    refine ⟨Nat.zero_le _, fun po hpo => ?_⟩
    obtain ⟨da, hda, hra⟩ := D.row ha
    obtain ⟨db, hdb, hrb⟩ := D.row hb
    have hne : a ≠ b := fun e => U.ir (e ▸ hab)
    have dab : da ≠ db := fun e => hne ((List.getElem?_inj (List.getElem?_eq_some_iff.mp hda).1 D.nd).mp (hda.trans (by rw [e]; exact hdb.symm)))
    have pda : po ≠ da := fun e => by rw [e, hra] at hpo; cases hpo
    have pdb : po ≠ db := fun e => by rw [e, hrb] at hpo; cases hpo
    have mda : m ≠ da := fun e => D.off (by rw [e]; exact List.mem_of_getElem? hda)
    have mdb : m ≠ db := fun e => D.off (by rw [e]; exact List.mem_of_getElem? hdb)
    have la := T.len ha
    have lb := T.len hb
    have onto : ∀ {H6 : Hp} {d : Addr} {o : HO}, Same H H6 → Same (upd H d o) (upd H6 d o) := fun {H6 d o} s x u hu => by
      by_cases e : x = d
      · subst e
        rw [upd_same] at hu ⊢
        exact hu
      · rw [upd_ne e] at hu ⊢
        exact s _ _ hu
    have app : ∀ {H5 : Hp} {us : List V} {ps : List (Nat × Nat)} {x y : Nat} {t3 : Addr} {Hb : Hp}, Same Hb H5 → Hb po = none → H5 po = some (.lst us) → Paired (Pr H5) us ps → H5 t3 = none →
        Same Hb (upd (upd H5 t3 (.tup [pI x, pI y])) po (.lst (us ++ [.ref t3]))) ∧ (upd (upd H5 t3 (.tup [pI x, pI y])) po (.lst (us ++ [.ref t3]))) po = some (.lst (us ++ [.ref t3])) ∧ Paired (Pr (upd (upd H5 t3 (.tup [pI x, pI y])) po (.lst (us ++ [.ref t3])))) (us ++ [.ref t3]) (ps ++ [(x, y)]) := fun {H5 us ps x y t3 Hb} s hp hpo5 pr h3 => by
      have h3p : (upd H5 t3 (.tup [pI x, pI y])) po = some (.lst us) := same_laid h3 _ _ hpo5
      have k : KeepT H5 (upd (upd H5 t3 (.tup [pI x, pI y])) po (.lst (us ++ [.ref t3]))) := (KeepT.new h3).trans (KeepT.lst h3p)
      refine ⟨sPut (sNew s h3) hp, upd_same, pApp (pMono persPr k pr) (.cons ⟨t3, rfl, ?_⟩ .nil)⟩
      rw [upd_ne (fun e => by rw [e, upd_same] at h3p; cases h3p)]
      exact upd_same
    refine ⟨da, _, same_laid hpo _ _ hra, trivial, fun od => ?_⟩
    have sb1 := onto (d := da) (o := .frz od (.dK (ldK (Ls a)))) (same_laid (o := .lst []) hpo)
    have hbp : (upd H da (.frz od (.dK (ldK (Ls a))))) po = none := by rw [upd_ne pda]; exact hpo
    have hbm : (upd H da (.frz od (.dK (ldK (Ls a))))) m = some (.lst (rows.map V.ref)) := by rw [upd_ne mda]; exact D.top
    have hbb : (upd H da (.frz od (.dK (ldK (Ls a))))) db = some (.dK (ldK (Ls b))) := by rw [upd_ne dab.symm]; exact hrb
    refine ⟨_, rfl, _, rfl, _, _, _, .ref da, rfl, rfl, SqL.of (sb1 _ _ hbm), atI_nat (j := a) (by rw [List.getElem?_map, hda]; rfl), da, od, rfl, .inl ⟨_, upd_same, ?_⟩⟩
    refine for_it walk_keys (fun k σ H5 => ∃ v5 us ps, σ = [some (.ref m), some (.ref t), some (pI a), some (pI b), some (.ref po), v5] ∧ Same (upd H da (.frz od (.dK (ldK (Ls a))))) H5 ∧ H5 po = some (.lst us) ∧ Paired (Pr H5) us ps ∧ (∀ q, q ∈ ps ↔ ∃ c ∈ (Ls a).take k, c ≠ b ∧ ¬ E b c ∧ q = (a, c)) ∧ ps.length ≤ k) ⟨none, [], [], rfl, sb1, by rw [upd_ne pda]; exact upd_same, .nil, fun q => by simp, Nat.le_refl _⟩ (fun k σ H5 _ ⟨_, _, _, _, s5, _⟩ => s5 _ _ upd_same) ?_ ?_
    · rintro k x σ H5o H5 hk ⟨v5, us, ps, rfl, s5, hpo5, pr5, st, lps⟩ ⟨rfl, ky, vv, hkv, rfl⟩
      unfold ldK at hkv
      rw [List.getElem?_map] at hkv
      obtain ⟨c, hc, ee⟩ := Option.map_eq_some_iff.mp hkv
      obtain ⟨rfl, rfl⟩ := Prod.mk.inj ee
      rw [ldK_len] at hk
      have etk : (Ls a).take (k + 1) = (Ls a).take k ++ [c] := by rw [List.take_add_one, hc]; rfl
      have skip : (c = b ∨ E b c) → ∃ v5 us ps, [some (V.ref m), some (.ref t), some (pI a), some (pI b), some (.ref po), some (pI c)] = [some (V.ref m), some (.ref t), some (pI a), some (pI b), some (.ref po), v5] ∧ Same (upd H da (.frz od (.dK (ldK (Ls a))))) H5 ∧ H5 po = some (.lst us) ∧ Paired (Pr H5) us ps ∧ (∀ q, q ∈ ps ↔ ∃ c ∈ (Ls a).take (k + 1), c ≠ b ∧ ¬ E b c ∧ q = (a, c)) ∧ ps.length ≤ k + 1 := fun hs => by
        refine ⟨_, us, ps, rfl, s5, hpo5, pr5, fun q => ?_, by omega⟩
        rw [st, etk]
        constructor
        · rintro ⟨c', h1, h2⟩
          exact ⟨c', List.mem_append_left _ h1, h2⟩
        · rintro ⟨c', h1, h2, h3, h4⟩
          rcases List.mem_append.mp h1 with h1 | h1
          · exact ⟨c', h1, h2, h3, h4⟩
          · rw [List.mem_singleton.mp h1] at h2 h3
            exact absurd hs (not_or.mpr ⟨h2, h3⟩)
      refine ⟨_, rfl, _, rfl, rfl, _, rfl, ifNI (fun c1 => ?_) (fun c1 => ?_)⟩
      · have c1 : c ≠ b := fun e => c1 (by rw [e])
        refine ⟨_, rfl, _, rfl, _, rfl, _, _, _, .ref db, rfl, rfl, SqL.of (s5 _ _ hbm), atI_nat (j := b) (by rw [List.getElem?_map, hdb]; rfl), db, _, rfl, .inl ⟨_, .inl (c : Int), .inl (s5 _ _ hbb), rfl, rfl⟩, _, rfl, ?_⟩
        rw [ldK_has]
        refine ifN (fun c2 => ?_) (fun c2 => ?_)
        · have c2 : ¬ E b c := fun h => of_decide_eq_false c2 ((T.mem b c hb).mpr h)
          refine ⟨_, rfl, .inl ⟨rfl, _, SqL.of hpo5⟩, _, rfl, _, rfl, by show 2 ≤ sizeLine; decide, fun t3 h3 => ⟨po, _, _, rfl, rfl, same_laid h3 _ _ hpo5, ?_, ?_⟩⟩
          · have := pr5.length
            exact sizeBig (by omega)
          · obtain ⟨z1, z2, z3⟩ := app (x := a) (y := c) s5 hbp hpo5 pr5 h3
            refine ⟨_, _, _, rfl, z1, z2, z3, fun q => ?_, by rw [List.length_append, List.length_cons, List.length_nil]; omega⟩
            rw [List.mem_append, st, etk, List.mem_singleton]
            constructor
            · rintro (⟨c', h1, h2⟩ | h)
              · exact ⟨c', List.mem_append_left _ h1, h2⟩
              · exact ⟨c, List.mem_append_right _ (List.mem_singleton.mpr rfl), c1, c2, h⟩
            · rintro ⟨c', h1, h2, h3, h4⟩
              rcases List.mem_append.mp h1 with h1 | h1
              · exact .inl ⟨c', h1, h2, h3, h4⟩
              · rw [List.mem_singleton.mp h1] at h4
                exact .inr h4
        · exact skip (.inr ((T.mem b c hb).mp (of_decide_eq_true c2)))
      · exact skip (.inl (by omega))
    · rintro σ H5 ⟨v5, us, ps, rfl, s5, hpo5, pr5, st, lps⟩
      rw [ldK_len] at lps
      rw [ldK_len, List.take_length] at st
      refine ⟨s5 _ _ upd_same, ?_⟩
      have s6 := lock_back hra s5
      have k56 : KeepT H5 (upd H5 da (.dK (ldK (Ls a)))) := fun x ys h => by
        rw [upd_ne (fun e => by rw [e, s5 _ _ upd_same] at h; cases h)]
        exact h
      have hpo6 : (upd H5 da (.dK (ldK (Ls a)))) po = some (.lst us) := by rw [upd_ne pda]; exact hpo5
      have pr6 := pMono persPr k56 pr5
      generalize (upd H5 da (.dK (ldK (Ls a)))) = H6 at s6 hpo6 pr6
      refine ⟨db, _, s6 _ _ hrb, trivial, fun od2 => ?_⟩
      have sb2 := onto (d := db) (o := .frz od2 (.dK (ldK (Ls b)))) s6
      have hbp2 : (upd H db (.frz od2 (.dK (ldK (Ls b))))) po = none := by rw [upd_ne pdb]; exact hpo
      have hbm2 : (upd H db (.frz od2 (.dK (ldK (Ls b))))) m = some (.lst (rows.map V.ref)) := by rw [upd_ne mdb]; exact D.top
      have hba2 : (upd H db (.frz od2 (.dK (ldK (Ls b))))) da = some (.dK (ldK (Ls a))) := by rw [upd_ne dab]; exact hra
      have k67 : KeepT H6 (upd H6 db (.frz od2 (.dK (ldK (Ls b))))) := KeepT.dK (s6 _ _ hrb)
      refine ⟨_, rfl, _, rfl, _, _, _, .ref db, rfl, rfl, SqL.of (sb2 _ _ hbm2), atI_nat (j := b) (by rw [List.getElem?_map, hdb]; rfl), db, od2, rfl, .inl ⟨_, upd_same, ?_⟩⟩
      refine for_it walk_keys (fun k σ H5 => ∃ v5 us qs, σ = [some (.ref m), some (.ref t), some (pI a), some (pI b), some (.ref po), v5] ∧ Same (upd H db (.frz od2 (.dK (ldK (Ls b))))) H5 ∧ H5 po = some (.lst us) ∧ Paired (Pr H5) us qs ∧ (∀ q, q ∈ qs ↔ q ∈ ps ∨ ∃ c ∈ (Ls b).take k, c ≠ a ∧ ¬ E a c ∧ q = (c, b)) ∧ qs.length ≤ 40 + k) ⟨v5, us, ps, rfl, sb2, by rw [upd_ne pdb]; exact hpo6, pMono persPr k67 pr6, fun q => by simp, by omega⟩ (fun k σ H5 _ ⟨_, _, _, _, s5, _⟩ => s5 _ _ upd_same) ?_ ?_
      · rintro k x σ H5o H5 hk ⟨v5, us, qs, rfl, s5, hpo5, pr5, st2, lqs⟩ ⟨rfl, ky, vv, hkv, rfl⟩
        unfold ldK at hkv
        rw [List.getElem?_map] at hkv
        obtain ⟨c, hc, ee⟩ := Option.map_eq_some_iff.mp hkv
        obtain ⟨rfl, rfl⟩ := Prod.mk.inj ee
        rw [ldK_len] at hk
        have etk : (Ls b).take (k + 1) = (Ls b).take k ++ [c] := by rw [List.take_add_one, hc]; rfl
        have skip : (c = a ∨ E a c) → ∃ v5 us qs, [some (V.ref m), some (.ref t), some (pI a), some (pI b), some (.ref po), some (pI c)] = [some (V.ref m), some (.ref t), some (pI a), some (pI b), some (.ref po), v5] ∧ Same (upd H db (.frz od2 (.dK (ldK (Ls b))))) H5 ∧ H5 po = some (.lst us) ∧ Paired (Pr H5) us qs ∧ (∀ q, q ∈ qs ↔ q ∈ ps ∨ ∃ c ∈ (Ls b).take (k + 1), c ≠ a ∧ ¬ E a c ∧ q = (c, b)) ∧ qs.length ≤ 40 + (k + 1) := fun hs => by
          refine ⟨_, us, qs, rfl, s5, hpo5, pr5, fun q => ?_, by omega⟩
          rw [st2, etk]
          constructor
          · rintro (h | ⟨c', h1, h2⟩)
            · exact .inl h
            · exact .inr ⟨c', List.mem_append_left _ h1, h2⟩
          · rintro (h | ⟨c', h1, h2, h3, h4⟩)
            · exact .inl h
            rcases List.mem_append.mp h1 with h1 | h1
            · exact .inr ⟨c', h1, h2, h3, h4⟩
            · rw [List.mem_singleton.mp h1] at h2 h3
              exact absurd hs (not_or.mpr ⟨h2, h3⟩)
        refine ⟨_, rfl, _, rfl, rfl, _, rfl, ifNI (fun c1 => ?_) (fun c1 => ?_)⟩
        · have c1 : c ≠ a := fun e => c1 (by rw [e])
          refine ⟨_, rfl, _, rfl, _, rfl, _, _, _, .ref da, rfl, rfl, SqL.of (s5 _ _ hbm2), atI_nat (j := a) (by rw [List.getElem?_map, hda]; rfl), da, _, rfl, .inl ⟨_, .inl (c : Int), .inl (s5 _ _ hba2), rfl, rfl⟩, _, rfl, ?_⟩
          rw [ldK_has]
          refine ifN (fun c2 => ?_) (fun c2 => ?_)
          · have c2 : ¬ E a c := fun h => of_decide_eq_false c2 ((T.mem a c ha).mpr h)
            refine ⟨_, rfl, .inl ⟨rfl, _, SqL.of hpo5⟩, _, rfl, _, rfl, by show 2 ≤ sizeLine; decide, fun t3 h3 => ⟨po, _, _, rfl, rfl, same_laid h3 _ _ hpo5, ?_, ?_⟩⟩
            · have := pr5.length
              exact sizeBig (by omega)
            · obtain ⟨z1, z2, z3⟩ := app (x := c) (y := b) s5 hbp2 hpo5 pr5 h3
              refine ⟨_, _, _, rfl, z1, z2, z3, fun q => ?_, by rw [List.length_append, List.length_cons, List.length_nil]; omega⟩
              rw [List.mem_append, st2, etk, List.mem_singleton]
              constructor
              · rintro ((h | ⟨c', h1, h2⟩) | h)
                · exact .inl h
                · exact .inr ⟨c', List.mem_append_left _ h1, h2⟩
                · exact .inr ⟨c, List.mem_append_right _ (List.mem_singleton.mpr rfl), c1, c2, h⟩
              · rintro (h | ⟨c', h1, h2, h3, h4⟩)
                · exact .inl (.inl h)
                rcases List.mem_append.mp h1 with h1 | h1
                · exact .inl (.inr ⟨c', h1, h2, h3, h4⟩)
                · rw [List.mem_singleton.mp h1] at h4
                  exact .inr h4
          · exact skip (.inr ((T.mem a c ha).mp (of_decide_eq_true c2)))
        · exact skip (.inl (by omega))
      · rintro σ H7 ⟨v5, us, qs, rfl, s7, hpo7, pr7, st2, lqs⟩
        rw [ldK_len] at lqs
        rw [ldK_len, List.take_length] at st2
        refine ⟨s7 _ _ upd_same, _, rfl, ?_⟩
        have k78 : KeepT H7 (upd H7 db (.dK (ldK (Ls b)))) := fun x ys h => by
          rw [upd_ne (fun e => by rw [e, s7 _ _ upd_same] at h; cases h)]
          exact h
        refine q po us qs _ (lock_back hrb s7) hpo (by rw [upd_ne pdb]; exact hpo7) (pMono persPr k78 pr7) (fun r => ?_) (by omega)
        rw [st2, st]
        obtain ⟨r1, r2⟩ := r
        constructor
        · rintro (⟨c, h1, h2, h3, h4⟩ | ⟨c, h1, h2, h3, h4⟩)
          · obtain ⟨rfl, rfl⟩ := Prod.mk.inj h4
            exact .head hab ((T.mem _ _ ha).mp h1) h3 (fun e => h2 e.symm)
          · obtain ⟨rfl, rfl⟩ := Prod.mk.inj h4
            exact .tail hab (U.sy ((T.mem _ _ hb).mp h1)) h3 (fun e => h2 e.symm)
        · intro h
          cases h with
          | head g1 g2 g3 g4 => exact .inl ⟨r2, (T.mem _ _ ha).mpr g2, fun e => g4 e.symm, g3, rfl⟩
          | tail g1 g2 g3 g4 => exact .inr ⟨r1, (T.mem _ _ hb).mpr (U.sy g2), fun e => g4 e.symm, g3, rfl⟩
end
end Ns
/-! Own layer: all arrows that one forces, walked. -/
namespace Ns
open PySem PySem.Spec PyProof.Rows L2
local macro_rules | `(tactic| walk_at "look") => `(tactic| first | assumption | exact upd_same | (refine (upd_ne (by first | assumption | exact Ne.symm (by assumption))).trans ?_; walk_at "look"))
local macro_rules | `(tactic| walk_at "cond") => `(tactic| first | assumption | omega | (dsimp only; omega) | exact ⟨by omega, by omega⟩ | decide | exact ⟨by decide, by decide, by decide⟩ | exact .inr ⟨by decide, by decide⟩ | exact .inl ⟨by decide, by decide⟩ | exact .inr ⟨by omega, by omega⟩ | exact .inl ⟨by omega, by omega⟩)
local macro_rules | `(tactic| walk_at "rd1") => `(tactic| first
  | refine ⟨_, rfl, ?_⟩
  | refine ⟨_, _, rfl, rfl, ?_⟩
  | refine ⟨rfl, ?_⟩
  | refine ⟨_, _, rfl, rfl, (by walk_at "cond"), ?_⟩
  | refine ⟨_, _, _, _, rfl, rfl, SqL.of (by walk_at "look"), rfl, ?_⟩
  | refine ⟨_, _, _, _, rfl, rfl, SqT.of (by walk_at "look"), rfl, ?_⟩
  | refine ⟨_, _, _, _, rfl, rfl, (by walk_at "look"), rfl, ?_⟩
  | refine .inl ⟨_, rfl, ?_⟩
  | refine ⟨.inl ⟨rfl, _, SqL.of (by walk_at "look")⟩, ?_⟩
  | refine ⟨_, _, rfl, ⟨by omega, by omega, by omega, by omega⟩, ?_⟩
  | refine ⟨_, rfl, (by omega), (by omega), ?_⟩
  | refine And.intro (by walk_at "cond") ?_)
local macro_rules | `(tactic| walk_at "rd") => `(tactic| repeat (walk_at "rd1"))
abbrev N_forced_from : List Str := ["near", "arrow", "came", "line", "at", "one"]
theorem sc_forced_from : FnScope N_forced_from ["near", "arrow"] (defScope s_forced_from) := ⟨rfl, rfl, rfl, by decide +kernel, rfl, by decide +kernel, by decide +kernel⟩
abbrev N_chain : List Str := ["came", "arrow", "row"]
theorem sc_chain : FnScope N_chain ["came", "arrow"] (defScope s_chain) := ⟨rfl, rfl, rfl, by decide +kernel, rfl, by decide +kernel, by decide +kernel⟩
section
variable {P : Program} {w : World} {K : PySem.W.Frag} {mg : Str → Option Value} {base : Heap}
/-- an arrow, and the one that forced it -/
abbrev Ent2 := (Nat × Nat) × Option (Nat × Nat)
def ParV (H : Hp) (v : V) : Option (Nat × Nat) → Prop
  | none => v = .non
  | some q => Pr H v q
def KvE (H : Hp) (kv : List Key × V) (e : Ent2) : Prop := kv.1 = key e.1 ∧ ParV H kv.2 e.2
structure CameW (E : Ar) (a b : Nat) (es : List Ent2) : Prop where
  nd : (es.map (·.1)).Nodup
  st : es[0]? = some ((a, b), none)
  par : ∀ i p q, es[i]? = some (p, q) → (i = 0 ∧ q = none) ∨ ∃ j p', j < i ∧ (es.map (·.1))[j]? = some p' ∧ q = some p' ∧ Frc E p'.1 p'.2 p.1 p.2
  cls : ∀ e ∈ es, Cls E a b e.1.1 e.1.2
theorem kve_mono {H H' : Hp} (k : KeepT H H') : ∀ {kvs : DT} {es : List Ent2}, Paired (KvE H) kvs es → Paired (KvE H') kvs es
  | _, _, .nil => .nil
  | _, _, .cons (b := e) ⟨h1, h2⟩ t => .cons ⟨h1, by
      obtain ⟨p, q⟩ := e
      cases q with
      | none => exact h2
      | some q => exact persPr _ _ _ _ k h2⟩ (kve_mono k t)
theorem kve_has {H : Hp} (r : Nat × Nat) : ∀ {kvs : DT} {es : List Ent2}, Paired (KvE H) kvs es → (valV kvs (key r)).isSome = decide (r ∈ es.map (·.1))
  | _, _, .nil => rfl
  | kv :: kvs, e :: es, .cons ⟨h1, _⟩ t => by
    by_cases c : e.1 = r
    · rw [valV_pos (by rw [h1, c])]
      exact (decide_eq_true (by rw [List.map_cons, c]; exact List.mem_cons_self ..)).symm
    · rw [valV_neg (fun z => c (key_inj (h1.symm.trans z))), kve_has r t]
      refine decide_eq_decide.mpr ?_
      rw [List.map_cons, List.mem_cons]
      exact ⟨.inr, fun z => z.resolve_left fun z => c z.symm⟩
theorem kve_val {H : Hp} : ∀ {kvs : DT} {es : List Ent2}, Paired (KvE H) kvs es → (es.map (·.1)).Nodup → ∀ e ∈ es, ∃ v, valV kvs (key e.1) = some v ∧ ParV H v e.2
  | _, _, .nil, _, e, h => nomatch h
  | kv :: kvs, e0 :: es, .cons ⟨h1, h2⟩ t, nd, e, h => by
    rw [List.map_cons] at nd
    obtain ⟨n1, n2⟩ := List.nodup_cons.mp nd
    rcases List.mem_cons.mp h with rfl | h
    · exact ⟨kv.2, valV_pos h1, h2⟩
    · have hne : e0.1 ≠ e.1 := fun z => n1 (by rw [z]; exact List.mem_map.mpr ⟨e, h, rfl⟩)
      rw [valV_neg (fun z => hne (key_inj (h1.symm.trans z)))]
      exact kve_val t n2 e h
theorem kve_app {H : Hp} : ∀ {kvs kvs2 : DT} {es es2 : List Ent2}, Paired (KvE H) kvs es → Paired (KvE H) kvs2 es2 → Paired (KvE H) (kvs ++ kvs2) (es ++ es2)
  | _, _, _, _, .nil, h => h
  | _, _, _, _, .cons a t, h => .cons a (kve_app t h)
theorem CameW.start {E : Ar} {a b : Nat} (h : E a b) : CameW E a b [((a, b), none)] := by
  refine ⟨by simp, rfl, fun i p q hi => ?_, fun e he => ?_⟩
  · cases i with
    | zero => exact .inl ⟨rfl, (Prod.mk.inj (Option.some.inj hi)).2.symm⟩
    | succ i => cases hi
  · rw [List.mem_singleton.mp he]
    exact .self h
theorem CameW.add {E : Ar} {a b : Nat} {es : List Ent2} (x : CameW E a b es) {j : Nat} {p r : Nat × Nat} (hj : (es.map (·.1))[j]? = some p) (f : Frc E p.1 p.2 r.1 r.2) (hn : r ∉ es.map (·.1)) : CameW E a b (es ++ [(r, some p)]) := by
  have hjl := (List.getElem?_eq_some_iff.mp hj).1
  rw [List.length_map] at hjl
  have pre : ∀ {i : Nat} {e : Nat × Nat}, (es.map (·.1))[i]? = some e → ((es ++ [(r, some p)]).map (·.1))[i]? = some e := fun {i e} h => by
    rw [List.map_append, List.getElem?_append_left (List.getElem?_eq_some_iff.mp h).1]
    exact h
  refine ⟨?_, ?_, fun i p2 q hi => ?_, fun e he => ?_⟩
  · rw [List.map_append]
    exact List.nodup_append.mpr ⟨x.nd, by simp, fun u hu v hv e => hn (by
      have hv : v = r := List.mem_singleton.mp hv
      rw [← hv, ← e]
      exact hu)⟩
  · rw [List.getElem?_append_left (by omega)]
    exact x.st
  · by_cases c : i < es.length
    · rw [List.getElem?_append_left c] at hi
      rcases x.par i p2 q hi with h | ⟨j2, p3, h1, h2, h3, h4⟩
      · exact .inl h
      · exact .inr ⟨j2, p3, h1, pre h2, h3, h4⟩
    · rw [List.getElem?_append_right (by omega)] at hi
      have ei : i - es.length = 0 := by
        have := (List.getElem?_eq_some_iff.mp hi).1
        rw [List.length_cons, List.length_nil] at this
        omega
      rw [ei] at hi
      obtain ⟨rfl, rfl⟩ := Prod.mk.inj (Option.some.inj hi)
      exact .inr ⟨j, p, by omega, pre hj, rfl, f⟩
  · rcases List.mem_append.mp he with he | he
    · exact x.cls e he
    · rw [List.mem_singleton.mp he]
      obtain ⟨e0, he0, e1⟩ := List.mem_map.mp (List.mem_of_getElem? hj)
      have := x.cls e0 he0
      rw [show e0.1 = p from e1] at this
      exact .step this f
theorem CameW.len {E : Ar} {n a b : Nat} {es : List Ent2} (x : CameW E a b es) (lt : ∀ x y, E x y → x < n ∧ y < n) : es.length ≤ n * n := by
  have := sub_len (es.map (·.1)) (square n) x.nd fun p hp => by
    obtain ⟨e, he, rfl⟩ := List.mem_map.mp hp
    exact mem_square (lt _ _ (x.cls e he).arr)
  rw [List.length_map] at this
  exact Nat.le_trans this (square_len n)
def sp_ffrom : Sp := fun vs H Q _ => ∃ (m : Addr) (rows : List Addr) (n : Nat) (Ls : Nat → List Nat) (E : Ar) (v : V) (a b : Nat), vs = [.ref m, v] ∧ DN H m rows n Ls ∧ Tells n Ls E ∧ Und E ∧ n ≤ 40 ∧ Pr H v (a, b) ∧ E a b ∧
  ∀ (d : Addr) (kvs : DT) (es : List Ent2) (H' : Hp), Same H H' → H d = none → H' d = some (.dT kvs) → Paired (KvE H') kvs es → CameW E a b es → (∀ p, p ∈ es.map (·.1) ↔ Cls E a b p.1 p.2) → es.length ≤ 1600 → Q (.ref d) H'
theorem cal_ffrom (A : At K mg "forced_from" s_forced_from) (B : Bi mg) (c_forced : Cal P w K mg base 1 "forced" sp_forced) : Cal P w K mg base 2 "forced_from" sp_ffrom := by
  have nd := sc_forced_from.nd
  refine A.cal sc_forced_from (fun _ _ _ _ _ _ us hl => match us, hl with | [_, _], _ => rfl) ?_ fun f cdv A' outer s H vs Q E0 hr h => ⟨_, (pss_cons (ps_set (i := 2) nd rfl (.inl rfl) (pe_dispT1 hr.units0 (pv 1) pe_non))
  (pss_cons (ps_set (i := 3) nd rfl (.inl rfl) (pe_lst (pa_cons (pv 1) pa_nil)))
  (pss_cons (ps_set (i := 4) nd rfl (.inl rfl) pe_int)
  (pss_cons (ps_while passOwn (pt_cmpR op_lt (pv 4) (pe_callB (call_lenK (K := K) rfl) (by rfl) B.len (by decide +kernel) (pa_cons (pv 3) pa_nil)) (nomark _)) (pss_cons (ps_for passOwn rfl (pi_listK (K := K) rfl (pe_cal c_forced hr (by first | decide | omega) (by rfl) passE (pa_cons (pv 0) (pa_cons (pe_ix (ix_listK (K := K) rfl) (pv 3) (pv 4) (fun _ _ => rfl)) pa_nil)))) (pg_name (i := 5) nd rfl (.inl rfl)) (pss_one (ps_if (pt_cmp (pc_dnotin (hu_of hr) (pv 5) (pv 2)) rfl) (pss_cons (ps_dput (hu_of hr) (pv 2) (pv 5) (pe_ix (ix_listK (K := K) rfl) (pv 3) (pv 4) (fun _ _ => rfl)) rfl)
  (pss_one (ps_expr (pe_bm PySem.F.plainAttrs_list PySem.F.slot_list_append PySem.F.type_list_append mt_append (pv 3) (pa_cons (pv 5) pa_nil))))) pss_nil)))
  (pss_one (ps_set (i := 4) nd rfl (.inl rfl) (pe_op op_add (pv 4) pe_int)))))
  (pss_one (ps_ret (pv 2))))))), ?_⟩
  · rintro vs H Q E ⟨m, rows, n, Ls, E, v, a, b, rfl, _⟩
    rfl
  · obtain ⟨m, rows, n, Ls, E, v, a, b, rfl, D, T, U, hn, ⟨t, rfl, ht⟩, hab, q⟩ := h
    obtain ⟨ha, hb⟩ := T.lt a b hab
    have hnn : n * n ≤ 40 * 40 := Nat.mul_le_mul hn hn
    refine fun d hd => ⟨_, rfl, key (a, b), t, rfl, same_laid hd _ _ ht, upd_same, ?_⟩
    have s1 : Same H (upd (upd H d (.dT [])) d (.dT [(key (a, b), .non)])) := sPut (same_laid hd) hd
    have hd1 : (upd (upd H d (.dT [])) d (.dT [(key (a, b), .non)])) d = some (.dT [(key (a, b), .non)]) := upd_same
    generalize (upd (upd H d (.dT [])) d (.dT [(key (a, b), .non)])) = H1 at s1 hd1
    refine ⟨_, rfl, by show 1 ≤ sizeLine; decide, fun pl hpl => ?_⟩
    have npl : H pl = none := gone s1 hpl
    have hpd : pl ≠ d := fun e => by rw [e, hd1] at hpl; cases hpl
    have s2 := sNew s1 (o := .lst [.ref t]) hpl
    refine ⟨fun mm σ H3 => ∃ (at_ : Nat) (us : List V) (es : List Ent2) (kvs : DT) (v5 : Option V), σ = [some (.ref m), some (.ref t), some (.ref d), some (.ref pl), some (pI at_), v5] ∧ Same H H3 ∧ H3 d = some (.dT kvs) ∧ H3 pl = some (.lst us) ∧ Paired (KvE H3) kvs es ∧ Paired (Pr H3) us (es.map (·.1)) ∧ CameW E a b es ∧
        (∀ j p, j < at_ → (es.map (·.1))[j]? = some p → ∀ r : Nat × Nat, Frc E p.1 p.2 r.1 r.2 → r ∈ es.map (·.1)) ∧ at_ ≤ es.length ∧ mm = n * n + 1 - at_,
      ⟨_, 0, [.ref t], [((a, b), none)], [(key (a, b), .non)], none, rfl, s2, same_laid hpl _ _ hd1, upd_same, .cons ⟨rfl, rfl⟩ .nil, .cons ⟨t, rfl, s2 _ _ ht⟩ .nil, .start hab, fun j p hj => by omega, Nat.zero_le _, rfl⟩, ?_⟩
    rintro mm σ H3 ⟨at_, us, es, kvs, v5, rfl, s3, hd3, hpl3, pk3, pu3, cw, cl, hat, rfl⟩
    have les := cw.len T.lt
    have lus := pu3.length
    rw [List.length_map] at lus
    refine ⟨_, rfl, _, rfl, _, _, rfl, .inl ⟨_, SqL.of hpl3, rfl⟩, _, _, rfl, rfl, _, rfl, ifD (fun c => ?_) (fun c => ?_)⟩
    · have c : at_ < es.length := by omega
      refine ⟨fun σ' H' => ∃ (us : List V) (es : List Ent2) (kvs : DT) (v5 : Option V), σ' = [some (.ref m), some (.ref t), some (.ref d), some (.ref pl), some (pI (at_ + 1)), v5] ∧ Same H H' ∧ H' d = some (.dT kvs) ∧ H' pl = some (.lst us) ∧ Paired (KvE H') kvs es ∧ Paired (Pr H') us (es.map (·.1)) ∧ CameW E a b es ∧
          (∀ j p, j < at_ + 1 → (es.map (·.1))[j]? = some p → ∀ r : Nat × Nat, Frc E p.1 p.2 r.1 r.2 → r ∈ es.map (·.1)) ∧ at_ + 1 ≤ es.length, fun σ' H' ⟨us, es, kvs, v5, e1, e2, e3, e4, e5, e6, e7, e8, e9⟩ => ⟨n * n + 1 - (at_ + 1), by have := e7.len T.lt; omega, at_ + 1, us, es, kvs, v5, e1, e2, e3, e4, e5, e6, e7, e8, e9, rfl⟩, ?_⟩
      obtain ⟨p, hp⟩ : ∃ p, (es.map (·.1))[at_]? = some p := ⟨_, List.getElem?_eq_getElem (by rw [List.length_map]; exact c)⟩
      obtain ⟨e0, he0, ep0⟩ := List.mem_map.mp (List.mem_of_getElem? hp)
      have hEp : E p.1 p.2 := by
        have := (cw.cls e0 he0).arr
        rwa [show e0.1 = p from ep0] at this
      obtain ⟨vp, hvp, hprp⟩ := pAt pu3 hp
      refine ⟨_, rfl, _, rfl, _, rfl, _, _, _, _, rfl, rfl, SqL.of hpl3, atI_nat hvp, ?_⟩
      refine ⟨m, rows, n, Ls, E, vp, p.1, p.2, rfl, D.same s3, T, U, hn, hprp, hEp, fun pf ufs ps H4 s4 npf hpf prf hps lps => ⟨pf, rfl, ⟨_, SqL.of hpf⟩, ?_⟩⟩
      have hpfd : pf ≠ d := fun e => by rw [e, hd3] at npf; cases npf
      have hpfl : pf ≠ pl := fun e => by rw [e, hpl3] at npf; cases npf
      refine for_list (K := K) (a := pf) (xs := ufs) (fun k σ H5 => ∃ (us2 : List V) (ex : List Ent2) (kvs2 : DT) (v5 : Option V), σ = [some (.ref m), some (.ref t), some (.ref d), some (.ref pl), some (pI at_), v5] ∧ Same H H5 ∧ H5 d = some (.dT kvs2) ∧ H5 pl = some (.lst us2) ∧ Paired (KvE H5) kvs2 (es ++ ex) ∧ Paired (Pr H5) us2 ((es ++ ex).map (·.1)) ∧ CameW E a b (es ++ ex) ∧ H5 pf = some (.lst ufs) ∧ Paired (Pr H5) ufs ps ∧ ∀ r ∈ ps.take k, r ∈ (es ++ ex).map (·.1))
        ⟨us, [], kvs, v5, rfl, s3.trans s4, s4 _ _ hd3, s4 _ _ hpl3, by rw [List.append_nil]; exact kve_mono (sKt s4) pk3, by rw [List.append_nil]; exact pMono persPr (sKt s4) pu3, by rw [List.append_nil]; exact cw, hpf, prf, fun r hr => by simp at hr⟩ (fun k σ H5 _ ⟨_, _, _, _, _, _, _, _, _, _, _, h, _⟩ => SqL.of h) ?_ ?_
      · rintro k x σ H5 hx ⟨us2, ex, kvs2, v5, rfl, s5, hd5, hpl5, pk5, pu5, cw5, hpf5, prf5, hin⟩
        obtain ⟨r, hr2, tr, rfl, htr⟩ := pAtL prf5 hx
        have etk : ps.take (k + 1) = ps.take k ++ [r] := by rw [List.take_add_one, hr2]; rfl
        have les5 := cw5.len T.lt
        have lk5 := Paired.length pk5
        have lu5 := pu5.length
        rw [List.length_map] at lu5
        refine ⟨_, rfl, _, rfl, d, _, rfl, .inr ⟨kvs2, key r, tr, .inl hd5, rfl, htr, rfl⟩, _, rfl, ?_⟩
        rw [kve_has r pk5]
        refine ifN (fun c2 => ?_) (fun c2 => ?_)
        · have c2 := of_decide_eq_false c2
          have hval : valV kvs2 (key r) = none := by
            have := kve_has r pk5
            rw [decide_eq_false c2] at this
            cases hv : valV kvs2 (key r) with
            | none => rfl
            | some _ => rw [hv] at this; cases this
          have hp5 : ((es ++ ex).map (·.1))[at_]? = some p := by
            rw [List.map_append, List.getElem?_append_left (by rw [List.length_map]; exact c)]
            exact hp
          obtain ⟨vp5, hvp5, hprp5⟩ := pAt pu5 hp5
          refine ⟨_, rfl, _, rfl, _, _, _, _, rfl, rfl, SqL.of hpl5, atI_nat hvp5, _, rfl, _, rfl, d, _, rfl, DPut.t (k := key r) hd5 htr (sizeBig (by omega)), ?_⟩
          rw [putK_new vp5 hval]
          have k1 : KeepT H5 (upd H5 d (.dT (kvs2 ++ [(key r, vp5)]))) := KeepT.dT hd5
          have s6 : Same H (upd H5 d (.dT (kvs2 ++ [(key r, vp5)]))) := sPut s5 hd
          have hd6 : (upd H5 d (.dT (kvs2 ++ [(key r, vp5)]))) d = some (.dT (kvs2 ++ [(key r, vp5)])) := upd_same
          have hpl6 : (upd H5 d (.dT (kvs2 ++ [(key r, vp5)]))) pl = some (.lst us2) := by rw [upd_ne hpd]; exact hpl5
          have hpf6 : (upd H5 d (.dT (kvs2 ++ [(key r, vp5)]))) pf = some (.lst ufs) := by rw [upd_ne hpfd]; exact hpf5
          generalize (upd H5 d (.dT (kvs2 ++ [(key r, vp5)]))) = H6 at k1 s6 hd6 hpl6 hpf6
          have k2 : KeepT H6 (upd H6 pl (.lst (us2 ++ [.ref tr]))) := KeepT.lst hpl6
          have k3 := k1.trans k2
          have htr6 := k3 _ _ htr
          refine ⟨_, rfl, .inl ⟨rfl, _, SqL.of hpl6⟩, _, rfl, pl, _, _, rfl, rfl, hpl6, sizeBig (by omega), ?_⟩
          refine ⟨us2 ++ [.ref tr], ex ++ [(r, some p)], kvs2 ++ [(key r, vp5)], _, rfl, sPut s6 npl, by rw [upd_ne hpd.symm]; exact hd6, upd_same, ?_, ?_, ?_, by rw [upd_ne hpfl]; exact hpf6, pMono persPr k3 prf5, fun r2 hr3 => ?_⟩
          · rw [← List.append_assoc]
            exact kve_app (kve_mono k3 pk5) (.cons ⟨rfl, persPr _ _ _ _ k3 hprp5⟩ .nil)
          · rw [← List.append_assoc, List.map_append]
            exact pApp (pMono persPr k3 pu5) (.cons ⟨tr, rfl, htr6⟩ .nil)
          · rw [← List.append_assoc]
            exact cw5.add hp5 ((hps r).mp (List.mem_of_getElem? hr2)) c2
          · rw [← List.append_assoc, List.map_append, List.mem_append]
            rw [etk] at hr3
            rcases List.mem_append.mp hr3 with h | h
            · exact .inl (hin r2 h)
            · rw [List.mem_singleton.mp h]
              exact .inr (List.mem_singleton.mpr rfl)
        · refine ⟨us2, ex, kvs2, _, rfl, s5, hd5, hpl5, pk5, pu5, cw5, hpf5, prf5, fun r2 hr3 => ?_⟩
          rw [etk] at hr3
          rcases List.mem_append.mp hr3 with h | h
          · exact hin r2 h
          · rw [List.mem_singleton.mp h]
            exact of_decide_eq_true c2
      · rintro σ H5 ⟨us2, ex, kvs2, v5, rfl, s5, hd5, hpl5, pk5, pu5, cw5, hpf5, prf5, hin⟩
        rw [prf.length, List.take_length] at hin
        refine ⟨_, rfl, _, _, rfl, rfl, us2, es ++ ex, kvs2, v5, ?_, s5, hd5, hpl5, pk5, pu5, cw5, fun j p2 hj hp2 r hr2 => ?_, by rw [List.length_append]; omega⟩
        · show [some (V.ref m), some (.ref t), some (.ref d), some (.ref pl), some (.int ((at_ : Int) + 1)), v5] = _
          rfl
        · have hjl : j < (es.map (·.1)).length := by rw [List.length_map]; omega
          rw [List.map_append, List.getElem?_append_left hjl] at hp2
          by_cases ej : j = at_
          · subst ej
            rw [Option.some.inj (hp.symm.trans hp2)] at hps
            exact hin r ((hps r).mpr hr2)
          · have := cl j p2 (by omega) hp2 r hr2
            rw [List.map_append]
            exact List.mem_append_left _ this
    · have c : at_ = es.length := by omega
      subst c
      refine ⟨_, rfl, q d kvs es H3 s3 hd hd3 pk3 cw (fun p => ⟨fun h => ?_, fun h => ?_⟩) (by omega)⟩
      · obtain ⟨e, he, rfl⟩ := List.mem_map.mp h
        exact cw.cls e he
      · have go : ∀ {x y}, Cls E a b x y → (x, y) ∈ es.map (·.1) := fun h => by
          induction h with
          | self _ => exact List.mem_map.mpr ⟨_, List.mem_of_getElem? cw.st, rfl⟩
          | step _ f ih =>
            obtain ⟨j, hj⟩ := List.getElem?_of_mem ih
            have hjl := (List.getElem?_eq_some_iff.mp hj).1
            rw [List.length_map] at hjl
            exact cl j _ hjl hj _ f
        exact go h
end
end Ns
/-! Own layer: arrows told of a net, walked. -/
namespace Ns
open PySem PySem.Spec PyProof.Rows L2
local macro_rules | `(tactic| walk_at "look") => `(tactic| first | assumption | exact upd_same | (refine (upd_ne (by first | assumption | exact Ne.symm (by assumption))).trans ?_; walk_at "look"))
local macro_rules | `(tactic| walk_at "cond") => `(tactic| first | assumption | omega | (dsimp only; omega) | exact ⟨by omega, by omega⟩ | decide | exact ⟨by decide, by decide, by decide⟩ | exact .inr ⟨by decide, by decide⟩ | exact .inl ⟨by decide, by decide⟩ | exact .inr ⟨by omega, by omega⟩ | exact .inl ⟨by omega, by omega⟩)
local macro_rules | `(tactic| walk_at "rd1") => `(tactic| first
  | refine ⟨_, rfl, ?_⟩
  | refine ⟨_, _, rfl, rfl, ?_⟩
  | refine ⟨rfl, ?_⟩
  | refine ⟨_, _, rfl, rfl, (by walk_at "cond"), ?_⟩
  | refine ⟨_, _, _, _, rfl, rfl, SqL.of (by walk_at "look"), rfl, ?_⟩
  | refine ⟨_, _, _, _, rfl, rfl, SqT.of (by walk_at "look"), rfl, ?_⟩
  | refine ⟨_, _, _, _, rfl, rfl, (by walk_at "look"), rfl, ?_⟩
  | refine .inl ⟨_, rfl, ?_⟩
  | refine ⟨.inl ⟨rfl, _, SqL.of (by walk_at "look")⟩, ?_⟩
  | refine ⟨_, _, rfl, ⟨by omega, by omega, by omega, by omega⟩, ?_⟩
  | refine ⟨_, rfl, (by omega), (by omega), ?_⟩
  | refine And.intro (by walk_at "cond") ?_)
local macro_rules | `(tactic| walk_at "rd") => `(tactic| repeat (walk_at "rd1"))
abbrev N_turned_round : List Str := ["net", "near", "seen", "a", "b", "came", "x", "y"]
theorem sc_turned_round : FnScope N_turned_round ["net"] (defScope s_turned_round) := ⟨rfl, rfl, rfl, by decide +kernel, rfl, by decide +kernel, by decide +kernel⟩
abbrev N_arrows_of : List Str := ["net", "place", "left", "arrows", "a", "b", "turn", "x", "y"]
theorem sc_arrows_of : FnScope N_arrows_of ["net"] (defScope s_arrows_of) := ⟨rfl, rfl, rfl, by decide +kernel, rfl, by decide +kernel, by decide +kernel⟩
section
variable {P : Program} {w : World} {K : PySem.W.Frag} {mg : Str → Option Value} {base : Heap}
/-- arrows, each forcing the next one -/
def ChainOk (E : Ar) (R : List (Nat × Nat)) : Prop := ∀ k x y, R[k]? = some x → R[k + 1]? = some y → Frc E x.1 x.2 y.1 y.2
theorem pRev {α β : Type} {F : α → β → Prop} : ∀ {as : List α} {bs : List β}, Paired F as bs → Paired F as.reverse bs.reverse
  | _, _, .nil => .nil
  | _, _, .cons h t => by
    rw [List.reverse_cons, List.reverse_cons]
    exact pApp (pRev t) (.cons h .nil)
def sp_chain : Sp := fun vs H Q _ => ∃ (d : Addr) (kvs : DT) (es : List Ent2) (E : Ar) (v : V) (a b : Nat) (p0 : Nat × Nat), vs = [.ref d, v] ∧ H d = some (.dT kvs) ∧ Paired (KvE H) kvs es ∧ CameW E a b es ∧ es.length ≤ 1600 ∧ Pr H v p0 ∧ p0 ∈ es.map (·.1) ∧
  ∀ (t : Addr) (us : List V) (R : List (Nat × Nat)) (H' : Hp), Same H H' → H' t = some (.tup us) → Paired (Pr H') us R → R[0]? = some (a, b) → R.getLast? = some p0 → ChainOk E R → R.length ≤ 1600 → (∀ e ∈ R, ∃ i : Nat, (es.map (·.1))[i]? = some e) → Q (.ref t) H'
theorem cal_chain (A : At K mg "_chain" s_chain) (B : Bi mg) : Cal P w K mg base 1 "_chain" sp_chain := by
  have nd := sc_chain.nd
  refine A.cal sc_chain (fun _ _ _ _ _ _ us hl => match us, hl with | [_, _], _ => rfl) ?_ fun f cdv A' outer s H vs Q E0 hr h => ⟨_, (pss_cons (ps_set (i := 2) nd rfl (.inl rfl) (pe_lst pa_nil))
  (pss_cons (ps_while passOwn (pt_cmpR op_notN (pv 1) pe_non (nomark _)) (pss_cons (ps_expr (pe_bm PySem.F.plainAttrs_list PySem.F.slot_list_append PySem.F.type_list_append mt_append (pv 2) (pa_cons (pv 1) pa_nil)))
  (pss_one (ps_set (i := 1) nd rfl (.inl rfl) (pe_dget (hu_of hr) (pv 0) (pv 1) (fun _ _ => rfl))))))
  (pss_one (ps_ret (pe_callTy (call_tuple_ofK (K := K) rfl) (by rfl) B.tuple (by decide +kernel) (pa_cons (pe_revLK (K := K) rfl (pv 2)) pa_nil)))))), ?_⟩
  · rintro vs H Q E ⟨d, kvs, es, E, v, a, b, p0, rfl, _⟩
    rfl
  · obtain ⟨d, kvs, es, E, v, a, b, p0, rfl, hd, pk, cw, les, hv, hp0, q⟩ := h
    obtain ⟨i0, hi0⟩ := List.getElem?_of_mem hp0
    have hi0l := (List.getElem?_eq_some_iff.mp hi0).1
    rw [List.length_map] at hi0l
    refine ⟨Nat.zero_le _, fun pr hpr => ?_⟩
    have hdr : d ≠ pr := fun e => by rw [e, hpr] at hd; cases hd
    refine ⟨fun mm σ H3 => ∃ (cur : V) (us : List V) (ps : List (Nat × Nat)) (ci : Nat), σ = [some (.ref d), some cur, some (.ref pr)] ∧ Same H H3 ∧ H3 pr = some (.lst us) ∧ Paired (Pr H3) us ps ∧ ps.length + ci ≤ es.length ∧ mm = ci ∧ (∀ e ∈ ps, ∃ i : Nat, (es.map (·.1))[i]? = some e) ∧ (∀ x, ps[0]? = some x → x = p0) ∧
        (∀ k x y, ps[k]? = some x → ps[k + 1]? = some y → Frc E y.1 y.2 x.1 x.2) ∧
        ((ci = 0 ∧ cur = .non ∧ ps.getLast? = some (a, b)) ∨ ∃ i p, ci = i + 1 ∧ (es.map (·.1))[i]? = some p ∧ Pr H3 cur p ∧ (ps = [] → p = p0) ∧ ∀ x, ps.getLast? = some x → Frc E p.1 p.2 x.1 x.2),
      ⟨_, v, [], [], i0 + 1, rfl, same_laid hpr, upd_same, .nil, by rw [List.length_nil]; omega, rfl, (fun e h => nomatch h), (fun x h => nomatch h), (fun k x y h => nomatch h), .inr ⟨i0, p0, rfl, hi0, persPr _ _ _ _ (KeepT.new hpr) hv, fun _ => rfl, fun x h => nomatch h⟩⟩, ?_⟩
    rintro mm σ H3 ⟨cur, us, ps, ci, rfl, s3, hpr3, pu3, lps, rfl, hin, hfst, hch, hcur⟩
    have lus := pu3.length
    rcases hcur with ⟨rfl, rfl, hlast⟩ | ⟨i, p, rfl, hip, hcp, hp0', hfr⟩
    · refine ⟨_, rfl, rfl, _, rfl, iteF ?_⟩
      refine ⟨_, rfl, pr, _, rfl, SqL.of hpr3, fun p2 hp2 => ⟨p2, _, rfl, .inl ⟨SqL.of upd_same, fun t ht => ?_⟩⟩⟩
      have s4 := (same_laid (o := .lst us.reverse) hp2).trans (same_laid (o := .tup us.reverse) ht)
      have hl0 : ps.length ≠ 0 := fun e => by
        rw [List.eq_nil_of_length_eq_zero e] at hlast
        cases hlast
      refine q t us.reverse ps.reverse _ (s3.trans s4) upd_same (pRev (pMono persPr (sKt s4) pu3)) ?_ ?_ (fun k x y hx hy => ?_) (by rw [List.length_reverse]; omega) (fun e he => hin e (List.mem_reverse.mp he))
      · rw [List.getElem?_reverse (by omega), Nat.sub_zero, ← List.getLast?_eq_getElem?]
        exact hlast
      · rw [List.getLast?_reverse, List.head?_eq_getElem?]
        have hx : ps[0]? = some ps[0] := List.getElem?_eq_getElem (by omega)
        rw [hx, hfst _ hx]
      · have hk : k + 1 < ps.length := by
          have := (List.getElem?_eq_some_iff.mp hy).1
          rwa [List.length_reverse] at this
        rw [List.getElem?_reverse (by omega)] at hx
        rw [List.getElem?_reverse hk] at hy
        refine hch (ps.length - 1 - (k + 1)) y x hy ?_
        rw [show ps.length - 1 - (k + 1) + 1 = ps.length - 1 - k by omega]
        exact hx
    · obtain ⟨tp, rfl, htp⟩ := hcp
      refine ⟨_, rfl, rfl, _, rfl, iteT ?_⟩
      refine ⟨fun σ' H' => ∃ (cur : V) (us : List V) (ps : List (Nat × Nat)) (ci : Nat), σ' = [some (.ref d), some cur, some (.ref pr)] ∧ Same H H' ∧ H' pr = some (.lst us) ∧ Paired (Pr H') us ps ∧ ps.length + ci ≤ es.length ∧ ci < i + 1 ∧ (∀ e ∈ ps, ∃ i : Nat, (es.map (·.1))[i]? = some e) ∧ (∀ x, ps[0]? = some x → x = p0) ∧
        (∀ k x y, ps[k]? = some x → ps[k + 1]? = some y → Frc E y.1 y.2 x.1 x.2) ∧
        ((ci = 0 ∧ cur = .non ∧ ps.getLast? = some (a, b)) ∨ ∃ i p, ci = i + 1 ∧ (es.map (·.1))[i]? = some p ∧ Pr H' cur p ∧ (ps = [] → p = p0) ∧ ∀ x, ps.getLast? = some x → Frc E p.1 p.2 x.1 x.2), fun σ' H' ⟨cur, us, ps, ci, e1, e2, e3, e4, e5, e6, e7, e8, e9, e10⟩ => ⟨ci, e6, cur, us, ps, ci, e1, e2, e3, e4, e5, rfl, e7, e8, e9, e10⟩, ?_⟩
      have hpr3' := hpr3
      refine ⟨_, rfl, .inl ⟨rfl, _, SqL.of hpr3⟩, _, rfl, pr, _, _, rfl, rfl, hpr3, sizeBig (by omega), ?_⟩
      have k1 : KeepT H3 (upd H3 pr (.lst (us ++ [.ref tp]))) := KeepT.lst hpr3
      have s4 : Same H (upd H3 pr (.lst (us ++ [.ref tp]))) := sPut s3 hpr
      have pu4 : Paired (Pr (upd H3 pr (.lst (us ++ [.ref tp])))) (us ++ [.ref tp]) (ps ++ [p]) := pApp (pMono persPr k1 pu3) (.cons ⟨tp, rfl, k1 _ _ htp⟩ .nil)
      have hd4 : (upd H3 pr (.lst (us ++ [.ref tp]))) d = some (.dT kvs) := by rw [upd_ne hdr]; exact s3 _ _ hd
      have pk4 := kve_mono ((sKt s3).trans k1) pk
      obtain ⟨qe, hqe⟩ : ∃ qe, es[i]? = some (p, qe) := by
        rw [List.getElem?_map] at hip
        obtain ⟨e, he, ep⟩ := Option.map_eq_some_iff.mp hip
        exact ⟨e.2, by rw [he, ← ep]⟩
      obtain ⟨v', hv1, hv2⟩ := kve_val pk4 cw.nd _ (List.mem_of_getElem? hqe)
      refine ⟨_, rfl, _, rfl, d, _, rfl, .inr ⟨kvs, key p, tp, .inl hd4, rfl, k1 _ _ htp, hv1.symm⟩, ?_⟩
      have hin4 : ∀ e ∈ ps ++ [p], ∃ i : Nat, (es.map (·.1))[i]? = some e := fun e he => by
        rcases List.mem_append.mp he with he | he
        · exact hin e he
        · rw [List.mem_singleton.mp he]
          exact ⟨i, hip⟩
      have hf4 : ∀ x, (ps ++ [p])[0]? = some x → x = p0 := fun x hx => by
        cases ps with
        | nil => rw [← hp0' rfl]; exact (Option.some.inj hx).symm
        | cons y r => exact hfst x hx
      have hc4 : ∀ k x y, (ps ++ [p])[k]? = some x → (ps ++ [p])[k + 1]? = some y → Frc E y.1 y.2 x.1 x.2 := fun k x y hx hy => by
        by_cases c : k + 1 < ps.length
        · rw [List.getElem?_append_left (by omega)] at hx
          rw [List.getElem?_append_left c] at hy
          exact hch k x y hx hy
        · have hk := (List.getElem?_eq_some_iff.mp hy).1
          rw [List.length_append, List.length_cons, List.length_nil] at hk
          rw [List.getElem?_append_left (by omega)] at hx
          rw [List.getElem?_append_right (by omega), show k + 1 - ps.length = 0 by omega] at hy
          rw [← Option.some.inj hy]
          exact hfr x (by rw [List.getLast?_eq_getElem?, show ps.length - 1 = k by omega]; exact hx)
      have hl4 : (ps ++ [p]).getLast? = some p := by simp
      rcases cw.par i p qe hqe with ⟨rfl, rfl⟩ | ⟨j, p', hj, hjp, rfl, f⟩
      · have ep : p = (a, b) := by
          have := cw.st
          rw [hqe] at this
          exact (Prod.mk.inj (Option.some.inj this)).1
        exact ⟨v', _, _, 0, rfl, s4, upd_same, pu4, by rw [List.length_append, List.length_cons, List.length_nil]; omega, by omega, hin4, hf4, hc4, .inl ⟨rfl, hv2, by rw [hl4, ep]⟩⟩
      · refine ⟨v', _, _, j + 1, rfl, s4, upd_same, pu4, by rw [List.length_append, List.length_cons, List.length_nil]; omega, by omega, hin4, hf4, hc4, .inr ⟨j, p', rfl, hjp, hv2, fun e => ?_, fun x hx => ?_⟩⟩
        · simp at e
        · rw [hl4] at hx
          rw [← Option.some.inj hx]
          exact f
/-- None, and no arrow forces itself turned round; or arrows from one to the same one turned round -/
def TurnOut (H : Hp) (E : Ar) (u : V) : Prop := (u = .non ∧ NoTurn E) ∨ ∃ (t : Addr) (us : List V) (R : List (Nat × Nat)) (a b : Nat), u = .ref t ∧ H t = some (.tup us) ∧ Paired (Pr H) us R ∧ R[0]? = some (a, b) ∧ R.getLast? = some (b, a) ∧ ChainOk E R ∧ R.length ≤ 1600 ∧ E a b ∧ Cls E a b b a
def sp_tround : Sp := fun vs H Q _ => ∃ (v : V) (n : Nat) (ties : List (Nat × Nat)), vs = [v] ∧ Net H v n ties ∧ n ≤ 40 ∧ Good n ties ∧ ∀ (u : V) (H' : Hp), Same H H' → TurnOut H' (tieE ties) u → Q u H'
theorem cal_tround (A : At K mg "_turned_round" s_turned_round) (B : Bi mg) (c_neighbours_arrows : Cal P w K mg base 1 "neighbours_arrows" sp_nearA) (c_forced_from : Cal P w K mg base 2 "forced_from" sp_ffrom) (c_chain : Cal P w K mg base 1 "_chain" sp_chain) : Cal P w K mg base 3 "_turned_round" sp_tround := by
  have nd := sc_turned_round.nd
  refine A.cal sc_turned_round (fun _ _ _ _ _ _ us hl => match us, hl with | [_], _ => rfl) ?_ fun f cdv A' outer s H vs Q E0 hr h => ⟨_, (pss_cons (ps_set (i := 1) nd rfl (.inl rfl) (pe_cal c_neighbours_arrows hr (by first | decide | omega) (by rfl) passE (pa_cons (pv 0) pa_nil)))
  (pss_cons (ps_set (i := 2) nd rfl (.inl rfl) pe_dnewT)
  (pss_cons (ps_for passOwn rfl (pi_tupK (K := K) rfl (pe_ix (ix_tupK (K := K) rfl) (pv 0) pe_int (fun _ _ => rfl))) (pg_tupK (K := K) (n := 2) rfl rfl (pgs_cons (pg_name (i := 3) nd rfl (.inl rfl)) (pgs_cons (pg_name (i := 4) nd rfl (.inl rfl)) pgs_nil))) (pss_one (ps_if (pt_cmp (pc_dnotin (hu_of hr) (pe_tup (pa_cons (pv 3) (pa_cons (pv 4) pa_nil))) (pv 2)) rfl) (pss_cons (ps_set (i := 5) nd rfl (.inl rfl) (pe_cal c_forced_from hr (by first | decide | omega) (by rfl) passE (pa_cons (pv 1) (pa_cons (pe_tup (pa_cons (pv 3) (pa_cons (pv 4) pa_nil))) pa_nil))))
  (pss_cons (ps_if (pt_cmp (pc_din (hu_of hr) (pe_tup (pa_cons (pv 4) (pa_cons (pv 3) pa_nil))) (pv 5)) rfl) (pss_one (ps_ret (pe_cal c_chain hr (by first | decide | omega) (by rfl) passE (pa_cons (pv 5) (pa_cons (pe_tup (pa_cons (pv 4) (pa_cons (pv 3) pa_nil))) pa_nil))))) pss_nil)
  (pss_one (ps_lock (ps_for passOwn rfl (pi_keys (pv 5)) (pg_tupK (K := K) (n := 2) rfl rfl (pgs_cons (pg_name (i := 6) nd rfl (.inl rfl)) (pgs_cons (pg_name (i := 7) nd rfl (.inl rfl)) pgs_nil))) (pss_cons (ps_dput (hu_of hr) (pv 2) (pe_tup (pa_cons (pv 6) (pa_cons (pv 7) pa_nil))) pe_bl rfl)
  (pss_one (ps_dput (hu_of hr) (pv 2) (pe_tup (pa_cons (pv 7) (pa_cons (pv 6) pa_nil))) pe_bl rfl)))))))) pss_nil)))
  (pss_one (ps_ret pe_non))))), ?_⟩
  · rintro vs H Q E ⟨v, n, ties, rfl, _⟩
    rfl
  · obtain ⟨v, n, ties, rfl, hN, hn, hg, q⟩ := h
    have U := tieE_und hg
    have hnn : n * n ≤ 40 * 40 := Nat.mul_le_mul hn hn
    refine ⟨_, rfl, v, n, ties, rfl, hN, hn, hg, fun m rows Ls H2 s2 nm hnew D T => ?_⟩
    refine fun ds hds => ?_
    obtain ⟨t0, u0, rfl, h0, t2, us, rfl, h2, pr⟩ := hN.keep (sKt s2)
    have h0 : H2 t0 = some (.tup [pI n, .ref t2]) := h0
    have sd := same_laid (o := .dT []) hds
    refine ⟨_, rfl, _, _, _, _, rfl, rfl, SqT.of (sd _ _ h0), rfl, t2, rfl, ⟨_, SqT.of (sd _ _ h2)⟩, ?_⟩
    refine for_tup (K := K) (a := t2) (xs := us) (fun i σ H3 => ∃ v3 v4 v5 v6 v7 kvs, σ = [some (.ref t0), some (.ref m), some (.ref ds), v3, v4, v5, v6, v7] ∧ Same H2 H3 ∧ H3 ds = some (.dT kvs) ∧ KeysIn n kvs ∧ (∀ x : Nat × Nat, hasP kvs x = true → ¬ Cls (tieE ties) x.1 x.2 x.2 x.1) ∧ ∀ p ∈ ties.take i, hasP kvs p = true) ⟨none, none, none, none, none, [], rfl, sd, upd_same, KeysIn.nil, (fun x h => nomatch h), fun p hp => nomatch hp⟩ (fun i σ H3 _ ⟨_, _, _, _, _, _, _, s3, _⟩ => SqT.of (s3 _ _ h2)) ?_ ?_
    · rintro i x σ H3 hx ⟨v3, v4, v5, v6, v7, kvs, rfl, s3, hd3, ki, nt, dn⟩
      obtain ⟨p, hp, tp, rfl, htp⟩ := pAtL pr hx
      obtain ⟨a, b⟩ := p
      have hpm := List.mem_of_getElem? hp
      have hb := hg.1 _ hpm
      dsimp only at hb
      have hE : tieE ties a b := decide_eq_true (.inl hpm)
      have etk : ties.take (i + 1) = ties.take i ++ [(a, b)] := by rw [List.take_add_one, hp]; rfl
      refine ⟨tp, _, rfl, SqT.of (s3 _ _ htp), rfl, _, _, rfl, _, _, rfl, rfl, ?_⟩
      refine ⟨_, rfl, _, rfl, by show 2 ≤ sizeLine; decide, fun ta hta => ?_⟩
      have s4 := sNew s3 (o := .tup [pI a, pI b]) hta
      have hd4 := same_laid (o := .tup [pI a, pI b]) hta _ _ hd3
      refine ⟨_, rfl, ds, _, rfl, .inr ⟨kvs, key (a, b), ta, .inl hd4, rfl, upd_same, rfl⟩, _, rfl, ?_⟩
      show if (!hasP kvs (a, b)) = true then _ else _
      generalize (upd H3 ta (.tup [pI a, pI b])) = H4 at s4 hd4
      refine ifN (fun c => ?_) (fun c => ?_)
      · refine ⟨_, rfl, _, rfl, _, rfl, by show 2 ≤ sizeLine; decide, fun tb htb => ?_⟩
        have s5 := sNew s4 (o := .tup [pI a, pI b]) htb
        have hd5 := same_laid (o := .tup [pI a, pI b]) htb _ _ hd4
        refine ⟨m, rows, n, Ls, tieE ties, .ref tb, a, b, rfl, D.same s5, T, U, hn, ⟨tb, rfl, upd_same⟩, hE, fun d kvd es H6 s6 nd6 hd6 pk6 cw6 cls6 les6 => ?_⟩
        have s26 := s5.trans s6
        have hds6 := s6 _ _ hd5
        have n2d : H2 d = none := gone s5 nd6
        have dne : ds ≠ d := fun e => by rw [e, nd6] at hd5; cases hd5
        refine ⟨_, rfl, _, rfl, by show 2 ≤ sizeLine; decide, fun tc htc => ?_⟩
        have x7 := same_laid (o := .tup [pI b, pI a]) htc
        have s27 := s26.trans x7
        have pk7 := kve_mono (sKt x7) pk6
        refine ⟨_, rfl, d, _, rfl, .inr ⟨kvd, key (b, a), tc, .inl (x7 _ _ hd6), rfl, upd_same, rfl⟩, _, rfl, ?_⟩
        rw [kve_has (b, a) pk7]
        have hd7 := x7 _ _ hd6
        have hds7 := x7 _ _ hds6
        generalize (upd H6 tc (.tup [pI b, pI a])) = H7 at x7 s27 pk7 hd7 hds7
        refine ifD (fun c2 => ?_) (fun c2 => ?_)
        · refine ⟨_, rfl, _, rfl, _, rfl, by show 2 ≤ sizeLine; decide, fun te hte => ?_⟩
          have x8 := same_laid (o := .tup [pI b, pI a]) hte
          refine ⟨d, kvd, es, tieE ties, .ref te, a, b, (b, a), rfl, x8 _ _ hd7, kve_mono (sKt x8) pk7, cw6, les6, ⟨te, rfl, upd_same⟩, c2, fun t us R H9 s9 ht9 pr9 r1 r2 r3 r4 _ => ?_⟩
          exact q _ _ (s2.trans ((s27.trans x8).trans s9)) (.inr ⟨t, us, R, a, b, rfl, ht9, pr9, r1, r2, r3, r4, hE, (cls6 (b, a)).mp c2⟩)
        · have hno : ¬ Cls (tieE ties) a b b a := fun h => c2 ((cls6 (b, a)).mpr h)
          have bad : ∀ {x y}, Cls (tieE ties) a b x y → ¬ Cls (tieE ties) x y y x := fun h g => hno ((h.trans g).trans ((h.rev U).symm U))
          refine ⟨d, _, hd7, trivial, fun od => ?_⟩
          refine ⟨_, rfl, d, od, rfl, .inr ⟨_, upd_same, ?_⟩⟩
          refine for_it walk_keysT (fun k σ H8 => ∃ v6 v7 kvs, σ = [some (.ref t0), some (.ref m), some (.ref ds), some (pI a), some (pI b), some (.ref d), v6, v7] ∧ Same H2 H8 ∧ H8 d = some (.frz od (.dT kvd)) ∧ H8 ds = some (.dT kvs) ∧ KeysIn n kvs ∧ (∀ x : Nat × Nat, hasP kvs x = true → ¬ Cls (tieE ties) x.1 x.2 x.2 x.1) ∧ (∀ p ∈ ties.take i, hasP kvs p = true) ∧ ∀ e ∈ es.take k, hasP kvs e.1 = true) ⟨v6, v7, kvs, rfl, sPut s27 n2d, upd_same, by rw [upd_ne dne]; exact hds7, ki, nt, dn, fun e he => by simp at he⟩ (fun k σ H8 _ ⟨_, _, _, _, _, h, _⟩ => h) ?_ ?_
          · rintro k x σ H8o H8 hk ⟨v6, v7, kvs, rfl, s8, hd8, hds8, ki, nt, dn, dk⟩ ⟨rfl, kk, vv, tq, hkv, rfl, htq⟩
            obtain ⟨e, he, hkv2⟩ := pAtL pk7 hkv
            obtain ⟨hk1, _⟩ := hkv2
            have hk1 : kk = key e.1 := hk1
            subst hk1
            obtain ⟨⟨x, y⟩, qe⟩ := e
            have hcl := cw6.cls _ (List.mem_of_getElem? he)
            dsimp only at hcl
            have hlt := tieE_lt hg hcl.arr
            have lk := ki.len
            refine ⟨tq, _, rfl, SqT.of htq, rfl, _, _, rfl, _, _, rfl, rfl, ?_⟩
            have put : ∀ {kvs : DT} {z : Nat × Nat}, KeysIn n kvs → z.1 < n ∧ z.2 < n → KeysIn n (putK kvs (key z) (.bl true)) := fun {kvs z} h hz => by
              obtain ⟨ks, h⟩ := h
              exact ⟨_, h.put hz⟩
            have ki1 := put (z := (x, y)) ki hlt
            have ki2 := put (z := (y, x)) ki1 ⟨hlt.2, hlt.1⟩
            have lk1 := ki1.len
            refine ⟨_, rfl, _, rfl, _, rfl, by show 2 ≤ sizeLine; decide, fun t3 h3 => ?_⟩
            have hds9 := same_laid (o := .tup [pI x, pI y]) h3 _ _ hds8
            refine ⟨ds, _, rfl, DPut.t (k := key (x, y)) hds9 upd_same (sizeBig (by omega)), ?_⟩
            have s9 := sPut (o := .dT (putK kvs (key (x, y)) (.bl true))) (sNew s8 (o := .tup [pI x, pI y]) h3) hds
            have hd9 : (upd (upd H8 t3 (.tup [pI x, pI y])) ds (.dT (putK kvs (key (x, y)) (.bl true)))) d = some (.frz od (.dT kvd)) := by
              rw [upd_ne dne.symm]
              exact same_laid h3 _ _ hd8
            have hds9 : (upd (upd H8 t3 (.tup [pI x, pI y])) ds (.dT (putK kvs (key (x, y)) (.bl true)))) ds = some (.dT (putK kvs (key (x, y)) (.bl true))) := upd_same
            refine ⟨_, rfl, _, rfl, _, rfl, by show 2 ≤ sizeLine; decide, fun t4 h4 => ?_⟩
            have hds10 := same_laid (o := .tup [pI y, pI x]) h4 _ _ hds9
            refine ⟨ds, _, rfl, DPut.t (k := key (y, x)) hds10 upd_same (sizeBig (by omega)), ?_⟩
            refine ⟨_, _, _, rfl, sPut (sNew s9 (o := .tup [pI y, pI x]) h4) hds, ?_, upd_same, ki2, fun z hz => ?_, fun z hz => ?_, fun e he2 => ?_⟩
            · rw [upd_ne dne.symm]
              exact same_laid h4 _ _ hd9
            · rw [hasP_put, hasP_put, Bool.or_eq_true, Bool.or_eq_true, decide_eq_true_eq, decide_eq_true_eq] at hz
              rcases hz with rfl | rfl | hz
              · exact fun g => bad hcl (g.rev U)
              · exact bad hcl
              · exact nt z hz
            · rw [hasP_put, hasP_put, dn z hz, Bool.or_true, Bool.or_true]
            · rw [List.take_add_one, List.mem_append, he] at he2
              rw [hasP_put, hasP_put]
              rcases he2 with he2 | he2
              · rw [dk e he2, Bool.or_true, Bool.or_true]
              · rw [List.mem_singleton.mp he2]
                simp
          · rintro σ H8 ⟨v6, v7, kvs, rfl, s8, hd8, hds8, ki, nt, dn, dk⟩
            rw [Paired.length pk7, List.take_length] at dk
            refine ⟨hd8, _, _, _, _, _, kvs, rfl, sPut s8 n2d, by rw [upd_ne dne]; exact hds8, ki, nt, fun z hz => ?_⟩
            rw [etk] at hz
            rcases List.mem_append.mp hz with hz | hz
            · exact dn z hz
            · rw [List.mem_singleton.mp hz]
              have := dk _ (List.mem_of_getElem? cw6.st)
              exact this
      · refine ⟨_, _, _, _, _, kvs, rfl, s4, hd4, ki, nt, fun z hz => ?_⟩
        rw [etk] at hz
        rcases List.mem_append.mp hz with hz | hz
        · exact dn z hz
        · rw [List.mem_singleton.mp hz]
          exact c
    · rintro σ H3 ⟨v3, v4, v5, v6, v7, kvs, rfl, s3, hd3, ki, nt, dn⟩
      rw [pr.length, List.take_length] at dn
      refine q .non H3 (s2.trans s3) (.inl ⟨rfl, fun x y hxy hc => ?_⟩)
      have hxy : (x, y) ∈ ties ∨ (y, x) ∈ ties := of_decide_eq_true hxy
      rcases hxy with h | h
      · exact nt _ (dn _ h) hc
      · exact nt _ (dn _ h) (hc.rev U)
theorem TO.congr {E F G : Ar} (O : TO E F) (h : ∀ x y, F x y ↔ G x y) : TO E G :=
  ⟨fun g => O.sub ((h _ _).mpr g), fun e => (O.all e).imp (h _ _).mp (h _ _).mp, fun g k => O.one ((h _ _).mpr g) ((h _ _).mpr k), fun g k => (h _ _).mp (O.go ((h _ _).mpr g) ((h _ _).mpr k))⟩
theorem kv_prs {H : Hp} : ∀ {kvs : DT} {es : List Ent2} {bs : List Addr}, Paired (KvE H) kvs es → IsKeys H kvs bs → Paired (Pr H) (bs.map V.ref) (es.map (·.1))
  | _, _, _, .nil, .nil => .nil
  | _, _, _, .cons ⟨h1, _⟩ t, .cons k r => .cons ⟨_, rfl, by rw [h1] at k; exact k⟩ (kv_prs t r)
/-- arrows that go through, in order; or arrows from one to the same one turned round -/
def ToldA (H : Hp) (n : Nat) (ties : List (Nat × Nat)) (t : Addr) : Prop := ∃ (s : Addr) (us : List V) (R : List (Nat × Nat)), H s = some (.tup us) ∧ Paired (Pr H) us R ∧ R.length ≤ 1600 ∧
  ((H t = some (.tup [.bl true, .ref s]) ∧ R.Pairwise ltP ∧ TO (tieE ties) fun x y => (x, y) ∈ R) ∨
   (H t = some (.tup [.bl false, .ref s]) ∧ ∃ a b, R[0]? = some (a, b) ∧ R.getLast? = some (b, a) ∧ ChainOk (tieE ties) R ∧ tieE ties a b ∧ Cls (tieE ties) a b b a))
def sp_arrows_of : Sp := fun vs H Q _ => ∃ (v : V) (n : Nat) (ties : List (Nat × Nat)), vs = [v] ∧ Net H v n ties ∧ n ≤ 40 ∧ Good n ties ∧ ∀ (t : Addr) (H' : Hp), Same H H' → ToldA H' n ties t → Q (.ref t) H'
theorem cal_arrows_of (A : At K mg "arrows_of" s_arrows_of) (B : Bi mg) (c_turned_round : Cal P w K mg base 3 "_turned_round" sp_tround) (c_neighbours_arrows : Cal P w K mg base 1 "neighbours_arrows" sp_nearA) (c_forced_from : Cal P w K mg base 2 "forced_from" sp_ffrom) : Cal P w K mg base 4 "arrows_of" sp_arrows_of := by
  have nd := sc_arrows_of.nd
  refine A.cal sc_arrows_of (fun _ _ _ _ _ _ us hl => match us, hl with | [_], _ => rfl) ?_ fun f cdv A' outer s H vs Q E0 hr h => ⟨_, (pss_cons (ps_set (i := 1) nd rfl (.inl rfl) (pe_cal c_turned_round hr (by first | decide | omega) (by rfl) passE (pa_cons (pv 0) pa_nil)))
  (pss_cons (ps_if (pt_cmpR op_notN (pv 1) pe_non (nomark _)) (pss_one (ps_ret (pe_tup (pa_cons pe_bl (pa_cons (pv 1) pa_nil))))) pss_nil)
  (pss_cons (ps_set (i := 2) nd rfl (.inl rfl) (pe_cal c_neighbours_arrows hr (by first | decide | omega) (by rfl) passE (pa_cons (pv 0) pa_nil)))
  (pss_cons (ps_set (i := 3) nd rfl (.inl rfl) (pe_lst pa_nil))
  (pss_cons (ps_for passOwn rfl (pi_tupK (K := K) rfl (pe_ix (ix_tupK (K := K) rfl) (pv 0) pe_int (fun _ _ => rfl))) (pg_tupK (K := K) (n := 2) rfl rfl (pgs_cons (pg_name (i := 4) nd rfl (.inl rfl)) (pgs_cons (pg_name (i := 5) nd rfl (.inl rfl)) pgs_nil))) (pss_one (ps_if (pt_cmp (pc_din (hu_of hr) (pv 5) (pe_ix (ix_listK (K := K) rfl) (pv 2) (pv 4) (fun _ _ => rfl))) rfl) (pss_cons (ps_set (i := 6) nd rfl (.inl rfl) (pe_callTy (call_list_dT rfl) (by rfl) B.list (by decide +kernel) (pa_cons (pe_cal c_forced_from hr (by first | decide | omega) (by rfl) passE (pa_cons (pv 2) (pa_cons (pe_tup (pa_cons (pv 4) (pa_cons (pv 5) pa_nil))) pa_nil))) pa_nil)))
  (pss_cons (ps_for passOwn rfl (pi_listK (K := K) rfl (pv 6)) (pg_tupK (K := K) (n := 2) rfl rfl (pgs_cons (pg_name (i := 7) nd rfl (.inl rfl)) (pgs_cons (pg_name (i := 8) nd rfl (.inl rfl)) pgs_nil))) (pss_cons (ps_ddel (pe_ix (ix_listK (K := K) rfl) (pv 2) (pv 7) (fun _ _ => rfl)) (pv 8))
  (pss_one (ps_ddel (pe_ix (ix_listK (K := K) rfl) (pv 2) (pv 8) (fun _ _ => rfl)) (pv 7)))))
  (pss_one (ps_expr (pe_bm PySem.F.plainAttrs_list PySem.F.slot_list_extend PySem.F.type_list_extend mt_extend (pv 3) (pa_cons (pv 6) pa_nil)))))) pss_nil)))
  (pss_one (ps_ret (pe_tup (pa_cons pe_bl (pa_cons (pe_callTy (call_tuple_ofK (K := K) rfl) (by rfl) B.tuple (by decide +kernel) (pa_cons (pe_callB (cr_sortedSP (K := K) rfl) (by rfl) B.sorted (by decide +kernel) (pa_cons (pv 3) pa_nil)) pa_nil)) pa_nil)))))))))), ?_⟩
  · rintro vs H Q E ⟨v, n, ties, rfl, _⟩
    rfl
  · obtain ⟨v, n, ties, rfl, hN, hn, hg, q⟩ := h
    have U0 := tieE_und hg
    have hnn : n * n ≤ 40 * 40 := Nat.mul_le_mul hn hn
    refine ⟨_, rfl, v, n, ties, rfl, hN, hn, hg, fun u H1 s1 tr => ?_⟩
    rcases tr with ⟨rfl, NT⟩ | ⟨t, us, R, a, b, rfl, ht, pR, r1, r2, r3, r4, r5, r6⟩
    rotate_left
    · refine ⟨_, rfl, rfl, _, rfl, iteT ⟨_, rfl, by show 2 ≤ sizeLine; decide, fun t2 ht2 => ?_⟩⟩
      have x2 := same_laid (o := .tup [.bl false, .ref t]) ht2
      exact q t2 _ (s1.trans x2) ⟨t, us, R, x2 _ _ ht, pMono persPr (sKt x2) pR, r4, .inr ⟨upd_same, a, b, r1, r2, r3, r5, r6⟩⟩
    refine ⟨_, rfl, rfl, _, rfl, iteF ?_⟩
    have hN1 := hN.keep (sKt s1)
    refine ⟨_, rfl, v, n, ties, rfl, hN1, hn, hg, fun m rows Ls0 H2 s2 nm hnew D0 T0 => ?_⟩
    refine ⟨Nat.zero_le _, fun pa hpa => ?_⟩
    obtain ⟨t0, u0, rfl, h0, t2, uts, rfl, h2, pr⟩ := hN1
    have h0 : H1 t0 = some (.tup [pI n, .ref t2]) := h0
    have n1pa : H1 pa = none := gone s2 hpa
    have sp := same_laid (o := .lst []) hpa
    have mpa : pa ≠ m := fun e => by rw [e, D0.top] at hpa; cases hpa
    have rpa : pa ∉ rows := fun hm => by
      obtain ⟨i, hi⟩ := List.getElem?_of_mem hm
      rw [D0.at_ i pa hi] at hpa
      cases hpa
    have s12 := s2.trans sp
    refine ⟨_, rfl, _, _, _, _, rfl, rfl, SqT.of (s12 _ _ h0), rfl, t2, rfl, ⟨_, SqT.of (s12 _ _ h2)⟩, ?_⟩
    refine for_tup (K := K) (a := t2) (xs := uts) (fun i σ H3 => ∃ (v4 v5 v6 v7 v8 : Option V) (Ls : Nat → List Nat) (E : Ar) (us : List V) (acc : List (Nat × Nat)), σ = [some (.ref t0), some .non, some (.ref m), some (.ref pa), v4, v5, v6, v7, v8] ∧ Same H1 H3 ∧ DN H3 m rows n Ls ∧ Tells n Ls E ∧ Und E ∧ NoTurn E ∧ H3 pa = some (.lst us) ∧ Paired (Pr H3) us acc ∧ acc.Nodup ∧ (∀ p ∈ acc, ¬ E p.1 p.2 ∧ tieE ties p.1 p.2) ∧ (∀ x y, E x y → tieE ties x y) ∧ (∀ F : Ar, TO E F → TO (tieE ties) fun x y => (x, y) ∈ acc ∨ F x y) ∧ ∀ p ∈ ties.take i, ¬ E p.1 p.2)
      ⟨none, none, none, none, none, Ls0, tieE ties, [], [], rfl, s12, D0.same sp, T0, U0, NT, upd_same, .nil, List.nodup_nil, (fun p h => nomatch h), fun x y h => h, fun F O => O.congr fun x y => ⟨.inr, fun h => h.elim (fun h => nomatch h) id⟩, fun p hp => nomatch hp⟩ (fun i σ H3 _ ⟨_, _, _, _, _, _, _, _, _, _, s3, _⟩ => SqT.of (s3 _ _ h2)) ?_ ?_
    · rintro i x σ H3 hx ⟨v4, v5, v6, v7, v8, Ls, E, us, acc, rfl, s3, D, T, U, N, hpa3, pacc, nda, offa, sub, ext, dn⟩
      obtain ⟨p, hp, tp, rfl, htp⟩ := pAtL pr hx
      obtain ⟨a, b⟩ := p
      have hpm := List.mem_of_getElem? hp
      have hb := hg.1 _ hpm
      dsimp only at hb
      have han : a < n := by omega
      have etk : ties.take (i + 1) = ties.take i ++ [(a, b)] := by rw [List.take_add_one, hp]; rfl
      refine ⟨tp, _, rfl, SqT.of (s3 _ _ htp), rfl, _, _, rfl, _, _, rfl, rfl, ?_⟩
      obtain ⟨da, hda, hra⟩ := D.row han
      refine ⟨_, rfl, _, rfl, _, rfl, _, _, _, .ref da, rfl, rfl, SqL.of D.top, atI_nat (j := a) (by rw [List.getElem?_map, hda]; rfl), da, _, rfl, .inl ⟨_, .inl (b : Int), .inl hra, rfl, rfl⟩, _, rfl, ?_⟩
      rw [ldK_has]
      refine ifD (fun c => ?_) (fun c => ?_)
      · have hE : E a b := (T.mem a b han).mp c
        refine ⟨_, rfl, _, rfl, _, rfl, by show 2 ≤ sizeLine; decide, fun tb htb => ?_⟩
        have x4 := same_laid (o := .tup [pI a, pI b]) htb
        refine ⟨m, rows, n, Ls, E, .ref tb, a, b, rfl, D.same x4, T, U, hn, ⟨tb, rfl, upd_same⟩, hE, fun d kvd es H5 s5 nd5 hd5 pk5 cw5 cls5 les5 => ?_⟩
        have s35 := x4.trans s5
        refine ⟨d, kvd, rfl, .inl hd5, fun pt bs hpt hk => ?_⟩
        have x6 := same_laid (o := .lst (bs.map V.ref)) hpt
        have s36 := s35.trans x6
        have pt3 : H3 pt = none := gone s35 hpt
        have pL := pMono persPr (sKt x6) (kv_prs pk5 hk)
        have hpt6 : (upd H5 pt (.lst (bs.map V.ref))) pt = some (.lst (bs.map V.ref)) := upd_same
        generalize (upd H5 pt (.lst (bs.map V.ref))) = H6 at x6 s36 pL hpt6
        have D6 := D.same s36
        have rpt : pt ∉ rows := fun hm => by
          obtain ⟨i, hi⟩ := List.getElem?_of_mem hm
          rw [D.at_ i pt hi] at pt3
          cases pt3
        have ppt : pa ≠ pt := fun e => by rw [e, pt3] at hpa3; cases hpa3
        have ndL := cw5.nd
        have cL : ∀ q, q ∈ es.map (·.1) ↔ Cls E a b q.1 q.2 := cls5
        have lL : (es.map (·.1)).length ≤ 1600 := by rw [List.length_map]; exact les5
        generalize (es.map (·.1)) = L at pL ndL cL lL
        have turn : ∀ {x y}, Cls E a b x y → ¬ Cls E a b y x := fun h g => N _ _ h.arr ((h.symm U).trans g)
        refine ⟨_, rfl, pt, rfl, ⟨_, SqL.of hpt6⟩, for_list (K := K) (a := pt) (xs := bs.map V.ref) (fun j σ H7 => ∃ (v7 v8 : Option V) (Lj : Nat → List Nat), σ = [some (.ref t0), some .non, some (.ref m), some (.ref pa), some (pI a), some (pI b), some (.ref pt), v7, v8] ∧ Out rows H6 H7 ∧ DN H7 m rows n Lj ∧ Tells n Lj fun x y => E x y ∧ (x, y) ∉ L.take j ∧ (y, x) ∉ L.take j)
          ⟨v7, v8, Ls, rfl, Out.refl _ _, D6, ⟨fun x y hx => (T.mem x y hx).trans ⟨fun h => ⟨h, (fun h => nomatch h), fun h => nomatch h⟩, fun h => h.1⟩, T.nd, fun x y h => T.lt x y h.1⟩⟩ (fun j σ H7 _ ⟨_, _, _, _, o, _⟩ => SqL.of (o _ _ hpt6 rpt)) ?_ ?_⟩
        · rintro j x σ H7 hx ⟨v7, v8, Lj, rfl, o7, D7, T7⟩
          obtain ⟨⟨x, y⟩, hq, tq, rfl, htq⟩ := pAtL pL hx
          have hqm := List.mem_of_getElem? hq
          have hcl := (cL _).mp hqm
          dsimp only at hcl
          have hxy := T.lt x y hcl.arr
          have hne : x ≠ y := fun e => by subst e; exact U.ir hcl.arr
          have tk : L.take (j + 1) = L.take j ++ [(x, y)] := by rw [List.take_add_one, hq]; rfl
          have n1 : (x, y) ∉ L.take j := fun h => by
            obtain ⟨j2, hj2⟩ := List.getElem?_of_mem h
            rw [List.getElem?_take] at hj2
            split at hj2
            · have := (List.getElem?_inj (List.getElem?_eq_some_iff.mp hj2).1 ndL).mp (hj2.trans hq.symm)
              omega
            · cases hj2
          have n2 : (y, x) ∉ L.take j := fun h => turn hcl ((cL _).mp (List.mem_of_mem_take h))
          have htq7 : H7 tq = some (.tup [pI x, pI y]) := o7 _ _ htq fun hm => by
            obtain ⟨i, hi⟩ := List.getElem?_of_mem hm
            rw [D6.at_ i tq hi] at htq
            cases htq
          have my : y ∈ Lj x := (T7.mem x y hxy.1).mpr ⟨hcl.arr, n1, n2⟩
          have mx : x ∈ Lj y := (T7.mem y x hxy.2).mpr ⟨U.sy hcl.arr, n2, n1⟩
          refine ⟨tq, _, rfl, SqT.of htq7, rfl, _, _, rfl, _, _, rfl, rfl, ?_⟩
          obtain ⟨dx, hdx, hrx⟩ := D7.row hxy.1
          obtain ⟨D8, o8⟩ := D7.put hdx (remL (Lj x) y)
          refine ⟨_, rfl, _, rfl, _, _, _, .ref dx, rfl, rfl, SqL.of D7.top, atI_nat (j := x) (by rw [List.getElem?_map, hdx]; rfl), _, rfl, dx, _, .inl (y : Int), rfl, hrx, rfl, by rw [ldK_has]; exact decide_eq_true my, ?_⟩
          rw [ldK_drop]
          obtain ⟨dy, hdy, hry⟩ := D8.row hxy.2
          rw [if_neg (fun e => hne e.symm)] at hry
          obtain ⟨D9, o9⟩ := D8.put hdy (remL (Lj y) x)
          refine ⟨_, rfl, _, rfl, _, _, _, .ref dy, rfl, rfl, SqL.of D8.top, atI_nat (j := y) (by rw [List.getElem?_map, hdy]; rfl), _, rfl, dy, _, .inl (x : Int), rfl, hry, rfl, by rw [ldK_has]; exact decide_eq_true mx, ?_⟩
          rw [ldK_drop]
          refine ⟨_, _, _, rfl, o7.trans (o8.trans o9), D9, ⟨fun u w hu => ?_, fun u hu => ?_, fun u w h => T.lt u w h.1⟩⟩
          · have base : (E u w ∧ (u, w) ∉ L.take (j + 1) ∧ (w, u) ∉ L.take (j + 1)) ↔ w ∈ Lj u ∧ ¬ (u = x ∧ w = y) ∧ ¬ (u = y ∧ w = x) := by
              rw [T7.mem u w hu, tk, List.mem_append, List.mem_append, List.mem_singleton, List.mem_singleton, Prod.ext_iff, Prod.ext_iff]
              dsimp only
              constructor
              · rintro ⟨h1, h2, h3⟩
                exact ⟨⟨h1, fun h => h2 (.inl h), fun h => h3 (.inl h)⟩, fun h => h2 (.inr h), fun h => h3 (.inr ⟨h.2, h.1⟩)⟩
              · rintro ⟨⟨h1, h2, h3⟩, h4, h5⟩
                exact ⟨h1, fun h => h.elim h2 h4, fun h => h.elim h3 fun h => h5 ⟨h.2, h.1⟩⟩
            rw [base]
            by_cases e2 : u = y
            · subst e2
              rw [if_pos rfl, remLW_mem]
              exact ⟨fun h => ⟨h.1, fun z => hne z.1.symm, fun z => h.2 z.2⟩, fun h => ⟨h.1, fun z => h.2.2 ⟨rfl, z⟩⟩⟩
            · rw [if_neg e2]
              by_cases e1 : u = x
              · subst e1
                rw [if_pos rfl, remLW_mem]
                exact ⟨fun h => ⟨h.1, fun z => h.2 z.2, fun z => e2 z.1⟩, fun h => ⟨h.1, fun z => h.2.1 ⟨rfl, z⟩⟩⟩
              · rw [if_neg e1]
                exact ⟨fun h => ⟨h, fun z => e1 z.1, fun z => e2 z.1⟩, fun h => h.1⟩
          · by_cases e2 : u = y
            · rw [if_pos e2]
              exact (T7.nd y hxy.2).filter _
            · rw [if_neg e2]
              by_cases e1 : u = x
              · rw [if_pos e1]
                exact (T7.nd x hxy.1).filter _
              · rw [if_neg e1]
                exact T7.nd u hu
        · rintro σ H7 ⟨v7, v8, Lj, rfl, o7, D7, T7⟩
          rw [pL.length, List.take_length] at T7
          have T8 : Tells n Lj (cutA E a b) := ⟨fun x y hx => (T7.mem x y hx).trans (by rw [cL, cL]; exact Iff.rfl), T7.nd, fun x y h => T.lt x y h.1⟩
          have hnew6 : ∀ r ∈ rows, H1 r = none := hnew
          have s17 : Same H1 H7 := Out.same (s3.trans s36) hnew o7
          have hpa7 : H7 pa = some (.lst us) := o7 _ _ (s36 _ _ hpa3) rpa
          have hpt7 : H7 pt = some (.lst (bs.map V.ref)) := o7 _ _ hpt6 rpt
          have k67 : KeepT H6 H7 := fun a ys h => o7 _ _ h fun hm => by
            obtain ⟨i, hi⟩ := List.getElem?_of_mem hm
            rw [D6.at_ i a hi] at h
            cases h
          have ll : L.length = bs.length := by have := pL.length; rw [List.length_map] at this; exact this.symm
          have lacc : acc.length ≤ n * n := by
            refine Nat.le_trans (sub_len acc (square n) nda fun p hp => mem_square ?_) (square_len n)
            exact tieE_lt hg (offa p hp).2
          have lus := pacc.length
          refine ⟨_, rfl, .inl ⟨rfl, _, SqL.of hpa7⟩, _, rfl, pa, pt, us, bs.map V.ref, rfl, rfl, hpa7, hpt7, ?_, ?_⟩
          · rw [List.length_map]
            exact Nat.le_of_lt (sizeBig (by omega))
          have k78 : KeepT H7 (upd H7 pa (.lst (us ++ bs.map V.ref))) := KeepT.lst hpa7
          have k38 := ((sKt s36).trans k67).trans k78
          refine ⟨_, _, _, _, _, Lj, cutA E a b, us ++ bs.map V.ref, acc ++ L, rfl, sPut s17 n1pa, ⟨by rw [upd_ne mpa.symm]; exact D7.top, D7.len, D7.nd, fun i r hr => by rw [upd_ne (fun e => rpa (by rw [← e]; exact List.mem_of_getElem? hr))]; exact D7.at_ i r hr⟩, T8, cutA_und U a b, cut_turn U N a b, upd_same, pApp (pMono persPr k38 pacc) (pMono persPr (k67.trans k78) pL), ?_, fun p hp => ?_, fun x y h => sub x y h.1, fun F O => ?_, fun p hp => ?_⟩
          · exact List.nodup_append.mpr ⟨nda, ndL, fun x hx y hy e => (offa x hx).1 (by rw [e]; exact ((cL y).mp hy).arr)⟩
          · rcases List.mem_append.mp hp with hp | hp
            · exact ⟨fun h => (offa p hp).1 h.1, (offa p hp).2⟩
            · have := (cL p).mp hp
              exact ⟨fun h => h.2.1 this, sub _ _ this.arr⟩
          · refine (ext _ (to_add U N O)).congr fun x y => ?_
            rw [List.mem_append, cL (x, y)]
            exact ⟨fun h => h.elim (fun h => .inl (.inl h)) fun h => h.elim (fun h => .inl (.inr h)) .inr, fun h => h.elim (fun h => h.elim .inl fun h => .inr (.inl h)) fun h => .inr (.inr h)⟩
          · rw [etk] at hp
            rcases List.mem_append.mp hp with hp | hp
            · exact fun h => dn p hp h.1
            · rw [List.mem_singleton.mp hp]
              exact fun h => h.2.1 (.self hE)
      · refine ⟨_, _, _, _, _, Ls, E, us, acc, rfl, s3, D, T, U, N, hpa3, pacc, nda, offa, sub, ext, fun p hp => ?_⟩
        rw [etk] at hp
        rcases List.mem_append.mp hp with hp | hp
        · exact dn p hp
        · rw [List.mem_singleton.mp hp]
          exact fun h => c ((T.mem a b han).mpr h)
    · rintro σ H3 ⟨v4, v5, v6, v7, v8, Ls, E, us, acc, rfl, s3, D, T, U, N, hpa3, pacc, nda, offa, sub, ext, dn⟩
      rw [pr.length, List.take_length] at dn
      have none_ : ∀ x y, ¬ E x y := fun x y h => by
        have h2 : (x, y) ∈ ties ∨ (y, x) ∈ ties := of_decide_eq_true (sub x y h)
        rcases h2 with h2 | h2
        · exact dn _ h2 h
        · exact dn _ h2 (U.sy h)
      have O := ext (fun _ _ => False) ⟨fun h => h.elim, fun h => absurd h (none_ _ _), fun h => h.elim, fun h => h.elim⟩
      have lacc : acc.length ≤ n * n := by
        refine Nat.le_trans (sub_len acc (square n) nda fun p hp => mem_square ?_) (square_len n)
        exact tieE_lt hg (offa p hp).2
      refine ⟨_, rfl, pa, us, acc, rfl, .inl (SqL.of hpa3), pacc, fun ws ys p5 pm so pr5 hp5 => ?_⟩
      have x4 := same_laid (o := .lst ws) hp5
      refine ⟨p5, ws, rfl, .inl ⟨SqL.of upd_same, fun t5 ht5 => ⟨by show 2 ≤ sizeLine; decide, fun t6 ht6 => ?_⟩⟩⟩
      have x5 := same_laid (o := .tup ws) ht5
      have x6 := same_laid (o := .tup [.bl true, .ref t5]) ht6
      have ndy : ys.Nodup := pm.nodup_iff.mpr nda
      refine q t6 _ ((s1.trans s3).trans ((x4.trans x5).trans x6)) ⟨t5, ws, ys, x6 _ _ upd_same, pMono persPr (sKt ((x4.trans x5).trans x6)) pr5, by rw [pm.length_eq]; omega, .inl ⟨upd_same, ?_, ?_⟩⟩
      · exact (so.and ndy).imp fun {a b} h => by
          obtain ⟨h1, h2⟩ := h
          unfold ltP at h1 ⊢
          have : ¬ (a.1 = b.1 ∧ a.2 = b.2) := fun e => h2 (Prod.ext e.1 e.2)
          omega
      · exact O.congr fun x y => ⟨fun h => pm.mem_iff.mpr (h.elim id fun h => h.elim), fun h => .inl (pm.mem_iff.mp h)⟩
end
end Ns
/-! Own layer Dc: a name is given a dict by a comprehension. -/
/-! Own layer Dt: dict comprehensions whose keys are tuples. -/
namespace Ns
open PySem PySem.Spec PyProof.Rows L2
/-- a dict takes a key that is a tuple -/
theorem dT_take {X : Cx} {pins : List (Addr × Obj)} {σ : L2.St} {H : Hp} {s : Shared} {E : Value → Shared → Prop} {d q : Addr} {kvs : (List (List Key × V))} {k : List Key} {v : V} {r : Value} {Q : Unit → Shared → Prop} (hu : X.A.units < cLine) (J : Inv X pins σ H s)
    (h1 : H d = some (.dT kvs)) (h2 : H q = some (.tup (k.map kV))) (h3 : kvs.length < sizeLine) (rv : RelV v r) (h : ∀ s', Inv X pins σ (upd H d (.dT (putK kvs k v))) s' → Q () s') : wpAny (model X.prog X.w) X.A (dictSet d (.ref q) r) Q E s := by
  obtain ⟨z, lo, xs, rel, dd⟩ := dt_of J.hok h1
  have hp := length_putK kvs k v
  refine wpAny_dictSet_heap (hsz := by rw [← Paired.length rel]; exact z) (knd := tupleKind (mixKind X.prog X.w)) hu (key_of J.hok h2) dd fun h' dd' sb => h _ ?_
  obtain ⟨ob, es, ep, g1, g2, g3, g4, _, g5⟩ := dd'
  refine d_write J (by rw [h1]; exact True.intro) sb ⟨ob, g1⟩ ⟨by omega, lo, _, (rel.put k h2 rv).keeps fun c ys ec => ?_, ob, es, ep, g1, g2, g3, g4, g5⟩
  rw [upd_ne (ne_of ec h1 (fun z => nomatch z))]
  exact ec
/-- {k: v for target in iter if ..}, each key a tuple: D the new dict -/
def tDcT (wi : TI) (g : TG) (tt : TT) (tk tv : TE) (vs : List Nat) : TE := fun σ H Q => wi σ H fun J H1 => ∀ D, H1 D = none → ∃ W : Nat → Nat → Hp → Prop, (∃ m, W 0 m (upd H1 D (.dT []))) ∧ ∀ i m H, W i m H →
  (J.stop i H ∧ Q (.ref D) H) ∨ (J.go i H ∧ ∃ Nx : Hp → Prop, (∀ H', Nx H' → ∃ m', m' < m ∧ W (i + 1) m' H') ∧ ∀ x H', J.yld i H x H' → g x (wipe σ vs) H' fun σ2 H2 => wipe σ2 vs = wipe σ vs ∧ tt σ2 H2 fun b H3 =>
    if b = true then tk σ2 H3 fun y H4 => tv σ2 H4 fun z H5 => ∃ (kvs : (List (List Key × V))) (k : List Key) (q : Addr), y = .ref q ∧ H5 q = some (.tup (k.map kV)) ∧ H5 D = some (.dT kvs) ∧ kvs.length < sizeLine ∧ Nx (upd H5 D (.dT (putK kvs k z))) else Nx H3)
section
variable {X : Cx}
/-- how a comprehension's own block sees what it is made of -/
structure Parts (X : Cx) (scope : Scope) (tg kx vx : Expr) (ifs : List Expr) (g : TG) (tt : TT) (tk tv : TE) : Prop where
  aim : ∀ (s : Shared) (H : Hp) (C : Addr) (cl : List (Str × Addr)) (fs : List Addr), PG (X.blk s H scope (compEnvC scope cl C X.env) fs) tg g
  test : ∀ (s : Shared) (H : Hp) (C : Addr) (cl : List (Str × Addr)) (fs : List Addr), PTs (X.blk s H scope (compEnvC scope cl C X.env) fs) ifs tt
  key : ∀ (s : Shared) (H : Hp) (C : Addr) (cl : List (Str × Addr)) (fs : List Addr), PE (X.blk s H scope (compEnvC scope cl C X.env) fs) kx tk
  val : ∀ (s : Shared) (H : Hp) (C : Addr) (cl : List (Str × Addr)) (fs : List Addr), PE (X.blk s H scope (compEnvC scope cl C X.env) fs) vx tv
theorem dcT_core {pins : List (Addr × Obj)} {s : Shared} {σ : L2.St} {H : Hp} {Q : VK} {kx vx tg iter : Expr} {ifs : List Expr} {scope : Scope} {own : List (Str × Nat)} {pos pos' : Pos} {wi : TI} {g : TG} {tt : TT} {tk tv : TE} {use : Option (Value → Sem Unit)} {Qf : Value → Shared → Prop}
    (hu : X.A.units < cLine) (calm : X.calm = true) (uniq : X.N.Nodup) (I : Inv X pins σ H s) (hit : PI X tg iter wi) (blk : BlkOk X.N X.env.scope scope own) (parts : Parts X scope tg kx vx ifs g tt tk tv) (fold : ∀ x, foldedSetIterable iter X.env x = pure x)
    (read : tDcT wi g tt tk tv (own.map (·.2)) σ H Q)
    (after : ∀ D C s' m H', Inv X pins σ H' s' → Q (.ref D) H' → s'.heap.Ns C m → FpOk X pins H' C → compPost (model X.prog X.w) X.A X.xe use Qf (.ref D) C (.ok .next) s') :
    wpAny (model X.prog X.w) X.A (comprehension (.DictComp kx vx [⟨tg, iter, ifs, 0⟩] scope pos) scope X.env pos' newDict false (eval iter X.env) use) Qf X.xe s := by
  have clo : ∀ nm ∈ scope.names, nm.2 = .free → ∃ c, X.env.cells.lookup nm.1 = some c := fun nm hn fr => (blk.free nm hn fr).elim (fun l => I.ok.has _ (.inl l)) fun l => I.ok.has _ (.inr l)
  refine wpAny_comprehension_free (use := use) rfl fold (closure_ok clo) blk.kind (fun nm hn loc => by rw [blk.uniq nm hn, loc])
    (thn (hit.run pins s σ H _ I read) fun xv sa ha => thn ha fun itv sb ⟨it, fs, tn, J, Hb, eit, Ib, Tu, stb, fpb, rest⟩ => ?_)
  subst eit
  refine wpAny_newObj_type (newEnv_comp ?_)
  generalize eD : sb.heap.objs.size = D
  obtain ⟨W, ⟨m1, w1⟩, turn⟩ := rest D (Ib.hok.fresh (Nat.le_of_eq eD))
  generalize ec : ({ sb with heap := sb.heap.push { cls := .type "dict", data := .dict #[] } } : Shared) = sc
  have hc : sc.heap = sb.heap.push { cls := .type "dict", data := .dict #[] } := by rw [← ec]
  have Ic : Inv X pins σ (upd Hb D (.dT [])) sc := by
    rw [← ec]
    refine Ib.laid (t' := sb.toks) (fun _ _ a => Heap.get?_push_of_some _ a) (Nat.le_of_eq eD) ?_
    rw [← eD]
    exact dt_empty sb.heap Ib.big
  have fpc : ∀ a ∈ fs, FpOk X pins (upd Hb D (.dT [])) a ∧ a < sc.heap.objs.size := fun a ha => by
    obtain ⟨ob, eo, _⟩ := Tu.obj _ _ stb a ha
    have lt := Heap.lt_size eo
    refine ⟨⟨?_, (fpb a ha).2⟩, by rw [hc, Heap.size_push]; exact Nat.lt_succ_of_lt lt⟩
    rw [upd_ne (by rw [← eD]; exact Nat.ne_of_lt lt)]
    exact (fpb a ha).1
  have stc : tn 0 sc.heap := Tu.keep _ _ _ stb fun a _ ob eo => by rw [hc]; exact Heap.get?_push_of_some _ eo
  have Id := block_start Ic blk uniq fpc
  have pAim := parts.aim sc (upd Hb D (.dT [])) sc.heap.objs.size (cellsFrom (sc.heap.objs.size + 1) scope.names (cloFrom X.env.cells scope.names [])) fs
  have pTest := parts.test sc (upd Hb D (.dT [])) sc.heap.objs.size (cellsFrom (sc.heap.objs.size + 1) scope.names (cloFrom X.env.cells scope.names [])) fs
  have pKey := parts.key sc (upd Hb D (.dT [])) sc.heap.objs.size (cellsFrom (sc.heap.objs.size + 1) scope.names (cloFrom X.env.cells scope.names [])) fs
  have pVal := parts.val sc (upd Hb D (.dT [])) sc.heap.objs.size (cellsFrom (sc.heap.objs.size + 1) scope.names (cloFrom X.env.cells scope.names [])) fs
  show codeAny _ _ (.compStart (.DictComp kx vx [⟨tg, iter, ifs, 0⟩] scope pos) 0 (.ref it) (.ref D) (compEnvC scope (cellsFrom (sc.heap.objs.size + 1) scope.names (cloFrom X.env.cells scope.names [])) sc.heap.objs.size X.env)) (compPost (model X.prog X.w) X.A X.xe use Qf (.ref D) sc.heap.objs.size) { sc with heap := pushCells (sc.heap.push { cls := .type "dict", data := .dict #[] }) scope.names }
  have off : ∀ a ∈ fs, (upd Hb D (.dT [])) a = none := fun a ha => (fpc a ha).1.1
  generalize en : compEnvC scope (cellsFrom (sc.heap.objs.size + 1) scope.names (cloFrom X.env.cells scope.names [])) sc.heap.objs.size X.env = cn at Id pAim pTest pKey pVal ⊢
  have locN : cn.locals = sc.heap.objs.size := by subst en; rfl
  generalize upd Hb D (.dT []) = Hc at Ic Id pAim pTest pKey pVal w1 off fpc
  generalize ed : ({ sc with heap := pushCells (sc.heap.push { cls := .type "dict", data := .dict #[] }) scope.names } : Shared) = sd at Id ⊢
  have std : tn 0 sd.heap := Tu.keep _ _ _ stc fun a _ ob eo => by rw [← ed]; exact pushCells_keeps _ _ _ _ (Heap.get?_push_of_some _ eo)
  have still : ∀ {τ : L2.St} {G : Hp} {sx : Shared}, Inv (X.blk sc Hc scope cn fs) [] τ G sx → (∀ a ∈ fs, G a = none) → ∀ a ∈ fs, FpOk (X.blk sc Hc scope cn fs) [] G a := fun {τ G sx} Ix hn a ha =>
    ⟨hn a ha, (Ix.ok.exf a ha).1, Ix.ok.exfs a ha, .inl ha, fun q c eq => (Ix.ok.exf a ha).2 q c eq, fun q hq => absurd (show q ∈ ([] : List (Addr × Obj)) ++ [] from hq) (by simp)⟩
  have round : codeAny (model X.prog X.w) X.A (.compLoop (.DictComp kx vx [⟨tg, iter, ifs, 0⟩] scope pos) 0 (.ref it) (.ref D) cn) (compPost (model X.prog X.w) X.A X.xe use Qf (.ref D) sc.heap.objs.size) sd := by
    refine compLoop_anyD (fun n sx => ∃ i G, Inv (X.blk sc Hc scope cn fs) [] (wipe σ (own.map (·.2))) G sx ∧ tn i sx.heap ∧ (∀ a ∈ fs, G a = none) ∧ W i n G) ?_ m1 ⟨0, Hc, Id, std, off, w1⟩
    rintro n se ⟨i, G, Ie, ste, offe, we⟩
    rcases turn i n G we with ⟨stop, qq⟩ | ⟨go, Nx, hNx, step⟩
    · refine thnF (Tu.done (X.blk sc Hc scope cn fs) rfl rfl rfl calm i [] se _ G (fun _ _ => False) Ie (still Ie offe) ste stop) fun r sf ⟨er, If⟩ => ?_
      subst er
      have Ig : Inv X pins σ G sf := Ic.call' (ch := fs) If.os If.base If.hok If.bare fun a ha => ⟨(fpc a ha).1.2.2.2.1, (fpc a ha).1.2.1, (fpc a ha).1.2.2.2.2.1, (fpc a ha).1.2.2.2.2.2⟩
      have free : G cn.locals = none := If.free
      obtain ⟨m, ns, _⟩ := If.loc
      have ns : sf.heap.Ns cn.locals m := ns
      rw [locN] at ns free
      exact after D sc.heap.objs.size sf m G Ig qq ns (Ic.fpOk (Nat.le_refl _) free)
    · refine thnF (Tu.item (X.blk sc Hc scope cn fs) rfl rfl rfl calm i [] se _ G (fun _ _ => False) Ie (still Ie offe) ste go) fun r sf ⟨u, er, hf⟩ => ?_
      subst er
      refine thnF hf fun _ sg ⟨x, Gg, Ig, rg, yg, stg, ng⟩ => ?_
      refine thnF (pAim.run _ sg _ Gg x u _ (Ig.pinned (still Ig ng) (Tu.obj _ _ stg)) rg (step x Gg yg)) fun _ sh ⟨τ, Gh, Ih, wh, qh⟩ => ?_
      refine thnF (pTest.run _ sh τ Gh _ Ih qh) fun ans sj ⟨Gj, Ij, qj⟩ => ?_
      have onward : ∀ {sx : Shared} {G' : Hp}, Inv (X.blk sc Hc scope cn fs) ([] ++ pinsAt fs sg.heap) τ G' sx → Nx G' → ∃ m, m < n ∧ ∃ i G, Inv (X.blk sc Hc scope cn fs) [] (wipe σ (own.map (·.2))) G sx ∧ tn i sx.heap ∧ (∀ a ∈ fs, G a = none) ∧ W i m G := fun {sx G'} Ix nx => by
        obtain ⟨m, lt, wn⟩ := hNx G' nx
        have held : ∀ a ∈ fs, ∀ ob, sg.heap.get? a = some ob → sx.heap.get? a = some ob ∧ G' a = none := fun a ha ob eo => by
          have z := Ix.pin (a, ob) (List.mem_append_right _ (List.mem_append_right _ (mem_pinsAt ha eo)))
          exact ⟨z.1, z.2.1⟩
        refine ⟨m, lt, i + 1, G', (Ix.unpinned (pins := [])).weak (by rw [← wh, wipe_length]) (fun j v ej => ?_), Tu.keep _ _ _ stg fun a ha ob eo => (held a ha ob eo).1, fun a ha => ?_, wn⟩
        · rw [← wh] at ej
          exact (wipe_some ej).1
        · obtain ⟨ob, eo, _⟩ := Tu.obj _ _ stg a ha
          exact (held a ha ob eo).2
      cases ans with
      | false =>
        rw [if_neg Bool.false_ne_true] at qj ⊢
        exact onward Ij qj
      | true =>
        rw [if_pos rfl] at qj ⊢
        refine thnF (pKey.run _ sj τ Gj _ Ij qj) fun kv sk ⟨yk, Gk, Ik, rk, qk⟩ => ?_
        refine thnF (pVal.run _ sk τ Gk _ Ik qk) fun vv sl ⟨yv, Gl, Il, rl, kvs, k, q, eq, hq, hD, hz, nx⟩ => ?_
        subst eq
        obtain rfl : kv = Value.ref q := rk
        exact dT_take (X := X.blk sc Hc scope cn fs) hu Il hD hq hz rl fun sm Im => onward Im nx
  exact codeAny_compStart_dict round (Tu.self X.A 0 _ _ _ std round)
/-- as a value -/
theorem pe_dcT {kx vx tg iter : Expr} {ifs : List Expr} {scope : Scope} {own : List (Str × Nat)} {pos : Pos} {wi : TI} {g : TG} {tt : TT} {tk tv : TE} (hu : X.A.units < cLine) (calm : X.calm = true) (uniq : X.N.Nodup) (hit : PI X tg iter wi) (blk : BlkOk X.N X.env.scope scope own)
    (parts : Parts X scope tg kx vx ifs g tt tk tv) (fold : ∀ x, foldedSetIterable iter X.env x = pure x := by intro _; rfl) : PE X (.DictComp kx vx [⟨tg, iter, ifs, 0⟩] scope pos) (tDcT wi g tt tk tv (own.map (·.2))) := by
  refine ⟨fun pins s σ H Q I h => ?_⟩
  rw [arm_eval_DictComp]
  exact dcT_core hu calm uniq I hit blk parts fold h fun D C s' m H' I' q hn ⟨f0, f1, f2, f3, f4, f5⟩ => ⟨m, hn, fun h2 sb => ⟨.ref D, H', I'.turned (t' := s'.toks) (fun b o hb e => (sb.2 b hb).trans e) f0 f1 f3 f4 f5, rfl, q⟩⟩
end
end Ns
/-! Own layer: stories and places of arrows, in plain Lean. -/
namespace Ns
open PySem PySem.Spec PyProof.Rows L2
theorem ltP_uniqA : ∀ {as bs : List (Nat × Nat)}, as.Pairwise ltP → bs.Pairwise ltP → (∀ p, p ∈ as ↔ p ∈ bs) → as = bs
  | [], [], _, _, _ => rfl
  | [], b :: _, _, _, h => nomatch (h b).mpr (List.mem_cons_self ..)
  | a :: _, [], _, _, h => nomatch (h a).mp (List.mem_cons_self ..)
  | a :: as, b :: bs, ha, hb, h => by
    obtain ⟨a1, a2⟩ := List.pairwise_cons.mp ha
    obtain ⟨b1, b2⟩ := List.pairwise_cons.mp hb
    have irr : ∀ p : Nat × Nat, ¬ ltP p p := fun p hp => by unfold ltP at hp; omega
    have asym : ∀ p q : Nat × Nat, ltP p q → ltP q p → False := fun p q h1 h2 => by unfold ltP at h1 h2; omega
    have e : a = b := by
      rcases List.mem_cons.mp ((h a).mp (List.mem_cons_self ..)) with e | e
      · exact e
      · rcases List.mem_cons.mp ((h b).mpr (List.mem_cons_self ..)) with e2 | e2
        · exact e2.symm
        · exact (asym _ _ (a1 _ e2) (b1 _ e)).elim
    subst e
    rw [ltP_uniqA a2 b2 fun p => ⟨fun hp => ?_, fun hp => ?_⟩]
    · exact (List.mem_cons.mp ((h p).mp (List.mem_cons_of_mem _ hp))).resolve_left fun e => irr p (by have := a1 _ hp; rwa [← e] at this)
    · exact (List.mem_cons.mp ((h p).mpr (List.mem_cons_of_mem _ hp))).resolve_left fun e => irr p (by have := b1 _ hp; rwa [← e] at this)
/-- a story of arrows -/
def StoryA (ties R : List (Nat × Nat)) : Prop := R.Pairwise ltP ∧ TO (tieE ties) fun x y => (x, y) ∈ R
/-- a place of arrows -/
def PlaceA (ties R : List (Nat × Nat)) : Prop := ∃ a b, R[0]? = some (a, b) ∧ R.getLast? = some (b, a) ∧ ChainOk (tieE ties) R ∧ tieE ties a b
theorem StoryA.eq {ties R ys : List (Nat × Nat)} (x : StoryA ties R) (pm : ys.Perm R) (so : ys.Pairwise fun a b => ¬ ltP b a) : R = ys := by
  have ndR : R.Nodup := x.1.imp fun {a b} h e => by subst e; unfold ltP at h; omega
  have ndy : ys.Nodup := pm.nodup_iff.mpr ndR
  refine ltP_uniqA x.1 ((so.and ndy).imp fun {a b} h => ?_) fun p => pm.mem_iff.symm
  obtain ⟨h1, h2⟩ := h
  unfold ltP at h1 ⊢
  have : ¬ (a.1 = b.1 ∧ a.2 = b.2) := fun e => h2 (Prod.ext e.1 e.2)
  omega
def mmP (p : Nat × Nat) : Nat × Nat := (min p.1 p.2, max p.1 p.2)
theorem StoryA.ndR {ties R : List (Nat × Nat)} (x : StoryA ties R) : R.Nodup := x.1.imp fun {a b} h e => by subst e; unfold ltP at h; omega
theorem StoryA.mnd {ties R : List (Nat × Nat)} (x : StoryA ties R) : (R.map mmP).Nodup := by
  rw [List.Nodup, List.pairwise_map]
  refine List.Pairwise.imp_of_mem (fun {a b} ha hb ne e => ?_) x.ndR
  unfold mmP at e
  obtain ⟨e1, e2⟩ := Prod.mk.inj e
  by_cases c : a.1 = b.1
  · exact ne (Prod.ext c (by omega))
  · have f1 : a.1 = b.2 := by omega
    have f2 : a.2 = b.1 := by omega
    have hb2 : (a.2, a.1) ∈ R := by rw [f1, f2]; exact hb
    exact x.2.one (x := a.1) (y := a.2) ha hb2
theorem StoryA.mmem {n : Nat} {ties R : List (Nat × Nat)} (hg : Good n ties) (x : StoryA ties R) (p : Nat × Nat) : p ∈ R.map mmP ↔ p ∈ ties := by
  rw [List.mem_map]
  constructor
  · rintro ⟨r, hr, rfl⟩
    have hE : tieE ties r.1 r.2 := x.2.sub (x := r.1) (y := r.2) hr
    have h : (r.1, r.2) ∈ ties ∨ (r.2, r.1) ∈ ties := of_decide_eq_true hE
    unfold mmP
    rcases h with h | h
    · have := hg.1 _ h
      dsimp only at this
      rw [Nat.min_eq_left (by omega), Nat.max_eq_right (by omega)]
      exact h
    · have := hg.1 _ h
      dsimp only at this
      rw [Nat.min_eq_right (by omega), Nat.max_eq_left (by omega)]
      exact h
  · intro hp
    have hlt := (hg.1 p hp).1
    have hE : tieE ties p.1 p.2 := decide_eq_true (.inl hp)
    rcases x.2.all hE with h | h
    · refine ⟨(p.1, p.2), h, ?_⟩
      unfold mmP
      dsimp only
      rw [Nat.min_eq_left (by omega), Nat.max_eq_right (by omega)]
    · refine ⟨(p.2, p.1), h, ?_⟩
      unfold mmP
      dsimp only
      rw [Nat.min_eq_right (by omega), Nat.max_eq_left (by omega)]
theorem StoryA.len {n : Nat} {ties R : List (Nat × Nat)} (hg : Good n ties) (x : StoryA ties R) : R.length = ties.length := by
  have ndt : ties.Nodup := hg.2.imp fun {a b} h e => by subst e; unfold ltP at h; omega
  have h1 := sub_len (R.map mmP) ties x.mnd fun p hp => (x.mmem hg p).mp hp
  have h2 := sub_len ties (R.map mmP) ndt fun p hp => (x.mmem hg p).mpr hp
  rw [List.length_map] at h1 h2
  omega
theorem to_keep {E F : Ar} (U : Und E) (O : TO E F) {a b x y : Nat} (h : Cls E a b x y) (hf : F a b) : F x y := by
  induction h with
  | self _ => exact hf
  | step _ f ih =>
    cases f with
    | head g1 g2 g3 g4 =>
      rcases O.all g2 with h | h
      · exact h
      · exact absurd (U.sy (O.sub (O.go h ih))) g3
    | tail g1 g2 g3 g4 =>
      rcases O.all g2 with h | h
      · exact h
      · exact absurd (O.sub (O.go ih h)) g3
theorem to_noturn {E F : Ar} (U : Und E) (O : TO E F) : NoTurn E := fun a b hab h => by
  rcases O.all hab with hf | hf
  · exact O.one hf (to_keep U O h hf)
  · exact O.one hf (to_keep U O (h.symm U) hf)
theorem toldA_iff {H : Hp} {n : Nat} {ties : List (Nat × Nat)} {t : Addr} (hg : Good n ties) (x : ToldA H n ties t) : ∃ (ans : Bool) (s : Addr) (us : List V) (R : List (Nat × Nat)), H t = some (.tup [.bl ans, .ref s]) ∧ H s = some (.tup us) ∧ Paired (Pr H) us R ∧ R.length ≤ 1600 ∧ (ans = true ↔ NoTurn (tieE ties)) ∧ (ans = true → StoryA ties R) ∧ (ans = false → PlaceA ties R) := by
  have U := tieE_und hg
  obtain ⟨s, us, R, hs, pR, lR, h | h⟩ := x
  · exact ⟨true, s, us, R, h.1, hs, pR, lR, iff_of_true rfl (to_noturn U h.2.2), fun _ => h.2, fun e => nomatch e⟩
  · obtain ⟨ht, a, b, r1, r2, r3, r4, r5⟩ := h
    exact ⟨false, s, us, R, ht, hs, pR, lR, iff_of_false Bool.false_ne_true fun N => N a b r4 r5, (fun e => nomatch e), fun _ => ⟨a, b, r1, r2, r3, r4⟩⟩
end Ns
/-! Own layer: lines out of arrows of a net and of its opposite, in plain Lean. -/
namespace Ns
open PySem PySem.Spec PyProof.Rows L2
/-- the pairs that are not tied -/
def coT (n : Nat) (ties : List (Nat × Nat)) : List (Nat × Nat) := (allPairs n).filter fun p => !tieT ties p.1 p.2
theorem coT_good (n : Nat) (ties : List (Nat × Nat)) : Good n (coT n ties) := Good.filter _
/-- how many arrows lead to a point -/
def rk (L : List (Nat × Nat)) (p : Nat) : Nat := (L.filter fun q => decide (q.2 = p)).length
/-- a row in which each point stands at its place -/
def RowOk (n : Nat) (r : List Nat) (k : Nat → Nat) : Prop := r.length = n ∧ ∀ p, p < n → r[k p]? = some p
theorem nodup_rowN : ∀ {ns es : List Nat}, es.Nodup → (∀ x ∈ es, x ∈ ns) → es.length = ns.length → ns.Nodup
  | [], _, _, _, _ => List.nodup_nil
  | y :: r, es, nd, hs, hl => by
    rw [List.length_cons] at hl
    have hyr : y ∉ r := fun hy => by
      have := sub_len es r nd fun x hx => (List.mem_cons.mp (hs x hx)).elim (fun e => by rw [e]; exact hy) id
      omega
    have hye : y ∈ es := by
      apply Decidable.byContradiction
      intro hn
      have := sub_len es r nd fun x hx => (List.mem_cons.mp (hs x hx)).elim (fun e => absurd (e ▸ hx) hn) id
      omega
    refine List.nodup_cons.mpr ⟨hyr, nodup_rowN (es := es.erase y) (nd.erase y) (fun x hx => ?_) ?_⟩
    · have h1 := (nd.mem_erase_iff).mp hx
      exact (List.mem_cons.mp (hs x h1.2)).elim (fun e => absurd e h1.1) id
    · rw [List.length_erase_of_mem hye]
      omega
theorem RowOk.nd {n : Nat} {r : List Nat} {k : Nat → Nat} (x : RowOk n r k) : r.Nodup := by
  refine nodup_rowN (es := List.range n) List.nodup_range (fun p hp => List.mem_of_getElem? (x.2 p (List.mem_range.mp hp))) ?_
  rw [List.length_range]
  exact x.1.symm
theorem RowOk.lt {n : Nat} {r : List Nat} {k : Nat → Nat} (x : RowOk n r k) : ∀ p ∈ r, p < n := fun p hp => by
  apply Decidable.byContradiction
  intro hn
  have nd : (p :: List.range n).Nodup := List.nodup_cons.mpr ⟨fun h => hn (List.mem_range.mp h), List.nodup_range⟩
  have := sub_len (p :: List.range n) r nd fun q hq => (List.mem_cons.mp hq).elim (fun e => by rw [e]; exact hp) fun h => List.mem_of_getElem? (x.2 q (List.mem_range.mp h))
  rw [List.length_cons, List.length_range, x.1] at this
  omega
/-- arrows in any order -/
structure StoryU (ties R : List (Nat × Nat)) : Prop where
  nd : R.Nodup
  to : TO (tieE ties) fun x y => (x, y) ∈ R
theorem StoryU.of {ties R : List (Nat × Nat)} (x : StoryA ties R) : StoryU ties R := ⟨x.ndR, x.2⟩
theorem StoryU.lt {n : Nat} {ties R : List (Nat × Nat)} (hg : Good n ties) (x : StoryU ties R) : ∀ p ∈ R, p.1 < n ∧ p.2 < n := fun p hp => tieE_lt hg (x.to.sub (x := p.1) (y := p.2) hp)
end Ns
/-! Own layer Z: growing by rounds, walked. -/
namespace Ns
open PySem PySem.Spec PyProof.Rows L2
local macro_rules | `(tactic| walk_at "look") => `(tactic| first | assumption | exact upd_same | (refine (upd_ne (by first | assumption | exact Ne.symm (by assumption))).trans ?_; walk_at "look"))
local macro_rules | `(tactic| walk_at "cond") => `(tactic| first | assumption | omega | (dsimp only; omega) | exact ⟨by omega, by omega⟩ | decide | exact ⟨by decide, by decide, by decide⟩ | exact .inr ⟨by decide, by decide⟩ | exact .inl ⟨by decide, by decide⟩ | exact .inr ⟨by omega, by omega⟩ | exact .inl ⟨by omega, by omega⟩)
local macro_rules | `(tactic| walk_at "rd1") => `(tactic| first
  | refine ⟨_, rfl, ?_⟩
  | refine ⟨_, _, rfl, rfl, ?_⟩
  | refine ⟨rfl, ?_⟩
  | refine ⟨_, _, rfl, rfl, (by walk_at "cond"), ?_⟩
  | refine ⟨_, _, _, _, rfl, rfl, SqL.of (by walk_at "look"), rfl, ?_⟩
  | refine ⟨_, _, _, _, rfl, rfl, SqT.of (by walk_at "look"), rfl, ?_⟩
  | refine ⟨_, _, _, _, rfl, rfl, (by walk_at "look"), rfl, ?_⟩
  | refine .inl ⟨_, rfl, ?_⟩
  | refine ⟨.inl ⟨rfl, _, SqL.of (by walk_at "look")⟩, ?_⟩
  | refine ⟨_, _, rfl, ⟨by omega, by omega, by omega, by omega⟩, ?_⟩
  | refine ⟨_, rfl, (by omega), (by omega), ?_⟩
  | refine And.intro (by walk_at "cond") ?_)
local macro_rules | `(tactic| walk_at "rd") => `(tactic| repeat (walk_at "rd1"))
abbrev N_reached : List Str := ["around", "start", "shut", "before", "now", "later", "x", "y"]
theorem sc_reached : FnScope N_reached ["around", "start", "shut"] (defScope s_reached) := ⟨rfl, rfl, rfl, by decide +kernel, rfl, by decide +kernel, by decide +kernel⟩
section
variable {P : Program} {w : World} {K : PySem.W.Frag} {mg : Str → Option Value} {base : Heap}
def sp_reached : Sp := fun vs H Q _ => ∃ (m ps : Addr) (n start : Nat) (T : Tm) (sh : Nat → Bool), vs = [.ref m, pI start, .ref ps] ∧ Adj H m n T ∧ start < n ∧ n ≤ 1000 ∧ H ps = some (.lst (rowV n sh)) ∧
  ∀ (d : Addr) (S : List Ent) (H' : Hp), Same H H' → H d = none → Bfs n T sh start S → H' d = some (.dK (entK befV S)) → Q (.ref d) H'
theorem cal_reached (A : At K mg "reached" s_reached) (B : Bi mg) : Cal P w K mg base 1 "reached" sp_reached := by
  have nd := sc_reached.nd
  refine A.cal sc_reached (fun _ _ _ _ _ _ us hl => match us, hl with | [_, _, _], _ => rfl) ?_ fun f cdv A' outer s H vs Q E hr h => ⟨_, (pss_cons (ps_set (i := 3) nd rfl (.inl rfl) (pe_disp (pps_cons (pv 1) pe_non pps_nil) rfl rfl (by simp) (by decide)))
  (pss_cons (ps_set (i := 4) nd rfl (.inl rfl) (pe_lst (pa_cons (pv 1) pa_nil)))
  (pss_cons (ps_while passOwn (pt_truthK (K := K) rfl (pv 4) (by intro _; rfl)) (pss_cons (ps_set (i := 5) nd rfl (.inl rfl) (pe_lst pa_nil))
  (pss_cons (ps_for passOwn rfl (pi_listK (K := K) rfl (pv 4)) (pg_name (i := 6) nd rfl (.inl rfl)) (pss_one (ps_for passOwn rfl (pi_listK (K := K) rfl (pe_ix (ix_listK (K := K) rfl) (pv 0) (pv 6) (fun _ _ => rfl))) (pg_name (i := 7) nd rfl (.inl rfl)) (pss_one (ps_if (PW.pt (pw_and (pt_cmp (pc_dnotin (hu_of hr) (pv 7) (pv 3)) rfl) (pw_and1 (pt_not (pt_val (pe_ix (ix_listK (K := K) rfl) (pv 2) (pv 7) (fun _ _ => rfl))))))) (pss_cons (ps_dput (hu_of hr) (pv 3) (pv 7) (pv 6) rfl)
  (pss_one (ps_expr (pe_bm PySem.F.plainAttrs_list PySem.F.slot_list_append PySem.F.type_list_append mt_append (pv 5) (pa_cons (pv 7) pa_nil))))) pss_nil)))))
  (pss_one (ps_set (i := 4) nd rfl (.inl rfl) (pv 5))))))
  (pss_one (ps_ret (pv 3)))))), ?_⟩
  · rintro vs H Q E ⟨m, ps, n, start, T, sh, rfl, _⟩
    rfl
  · obtain ⟨m, ps, n, start, T, sh, rfl, hA, hst, hn, hps, q⟩ := h
    intro d hd
    refine ⟨_, rfl, upd_same, [(.inl (start : Int), .non)], rfl, by simp, ?_⟩
    have s1 : Same H (upd (upd H d (.dK [])) d (.dK (mergeK [] [(.inl (start : Int), .non)]))) := sPut (same_laid hd) hd
    have hd1 : (upd (upd H d (.dK [])) d (.dK (mergeK [] [(.inl (start : Int), .non)]))) d = some (.dK (entK befV [(start, none, 0)])) := upd_same
    generalize (upd (upd H d (.dK [])) d (.dK (mergeK [] [(.inl (start : Int), .non)]))) = H1 at s1 hd1
    refine ⟨_, rfl, by show 1 ≤ sizeLine; decide, fun pn hpn => ?_⟩
    have s2 := sNew s1 (o := .lst [pI start]) hpn
    have hd2 := same_laid (o := .lst [pI start]) hpn _ _ hd1
    refine ⟨fun mm σ H2 => ∃ pn now v5 v6 v7 S dd, σ = [some (.ref m), some (pI start), some (.ref ps), some (.ref d), some (.ref pn), v5, v6, v7] ∧ Same H H2 ∧ H2 d = some (.dK (entK befV S)) ∧ H2 pn = some (.lst (now.map pI)) ∧ Mid n T sh start dd now [] [] S ∧ now.length ≤ S.length ∧ mm = 2 * (n - S.length) + (if now = [] then 0 else 1),
      ⟨_, pn, [start], none, none, none, [(start, none, 0)], 0, rfl, s2, hd2, upd_same, mid_start hst, by simp, rfl⟩, ?_⟩
    rintro mm σ H2 ⟨pn, now, v5, v6, v7, S, dd, rfl, s2, hd2, hpn2, M, hnl, rfl⟩
    refine ⟨_, rfl, _, tru_list hpn2, ?_⟩
    cases enow : now with
    | nil =>
      subst enow
      refine iteF ?_
      exact ⟨_, rfl, q d S H2 s2 hd (mid_end M rfl) hd2⟩
    | cons x0 xs0 =>
    rw [← enow]
    have hne : now ≠ [] := by rw [enow]; simp
    have etr : (!(now.map pI).isEmpty) = true := by rw [enow]; rfl
    rw [etr]
    refine iteT ?_
    have hSn := bfs_len M.toBfsW
    refine ⟨fun σ' H' => ∃ pn' later v5 v6 v7 S', σ' = [some (.ref m), some (pI start), some (.ref ps), some (.ref d), some (.ref pn'), v5, v6, v7] ∧ Same H H' ∧ H' d = some (.dK (entK befV S')) ∧ H' pn' = some (.lst (later.map pI)) ∧ Mid n T sh start (dd + 1) later [] [] S' ∧ S'.length = S.length + later.length, ?_, ?_⟩
    · rintro σ' H' ⟨pn', later, v5', v6', v7', S', rfl, s', hd', hpn', M', hl'⟩
      have hSn' := bfs_len M'.toBfsW
      refine ⟨_, ?_, pn', later, v5', v6', v7', S', dd + 1, rfl, s', hd', hpn', M', by omega, rfl⟩
      rw [if_neg hne]
      by_cases e : later = []
      · rw [if_pos e]
        have : later.length = 0 := by rw [e]; rfl
        omega
      · rw [if_neg e]
        have := List.length_pos_iff.mpr e
        omega
    -- later = []
    refine ⟨Nat.zero_le _, fun pl hpl => ?_⟩
    have hpld : d ≠ pl := ne_of_none hd2 hpl
    have hplH := gone s2 hpl
    have hnpl : pn ≠ pl := ne_of_none hpn2 hpl
    have s3 := sNew s2 (o := .lst []) hpl
    have hd3 : (upd H2 pl (.lst [])) d = some (.dK (entK befV S)) := by rw [upd_ne hpld]; exact hd2
    have hpn3 : (upd H2 pl (.lst [])) pn = some (.lst (now.map pI)) := by rw [upd_ne hnpl]; exact hpn2
    refine ⟨_, rfl, pn, rfl, ⟨_, SqL.of hpn3⟩, for_list (K := K) (a := pn) (xs := now.map pI) (fun i σ H3 => ∃ v6 v7 S' later, σ = [some (.ref m), some (pI start), some (.ref ps), some (.ref d), some (.ref pn), some (.ref pl), v6, v7] ∧ Same H H3 ∧ H3 d = some (.dK (entK befV S')) ∧ H3 pn = some (.lst (now.map pI)) ∧ H3 pl = some (.lst (later.map pI)) ∧ Mid n T sh start dd now later (now.take i) S' ∧ S'.length = S.length + later.length)
      ⟨v6, v7, S, [], rfl, s3, hd3, hpn3, upd_same, M, by simp⟩ (fun i σ H3 _ ⟨_, _, _, _, _, _, _, h, _⟩ => SqL.of h) ?_ ?_⟩
    · rintro i xv σ H3 hx ⟨v6, v7, S', later, rfl, s3, hd3, hpn3, hpl3, M3, hl3⟩
      rw [List.getElem?_map] at hx
      obtain ⟨x, hx1, rfl⟩ := Option.map_eq_some_iff.mp hx
      have hxm := List.mem_of_getElem? hx1
      obtain ⟨px, hpx⟩ := (M3.nowS x).mp hxm
      have hxn : x < n := M3.lt _ hpx
      refine rdA2 hA s3 rfl rfl hxn fun a haH => ⟨a, rfl, ⟨_, SqL.of (s3 _ _ haH)⟩, ?_⟩
      refine for_list (K := K) (a := a) (xs := (nbL n T x).map pI) (fun j σ H4 => ∃ v7 S' later, σ = [some (.ref m), some (pI start), some (.ref ps), some (.ref d), some (.ref pn), some (.ref pl), some (pI x), v7] ∧ Same H H4 ∧ H4 d = some (.dK (entK befV S')) ∧ H4 pn = some (.lst (now.map pI)) ∧ H4 pl = some (.lst (later.map pI)) ∧ Mid n T sh start dd now later (now.take i) S' ∧ S'.length = S.length + later.length ∧ ∀ y ∈ (nbL n T x).take j, sh y = true ∨ y ∈ S'.map (·.1))
        ⟨v7, S', later, rfl, s3, hd3, hpn3, hpl3, M3, hl3, fun y hy => by simp at hy⟩ (fun j σ H4 _ ⟨_, _, _, _, s4, _⟩ => SqL.of (s4 _ _ haH)) ?_ ?_
      · rintro j yv σ H4 hy ⟨v7, S4, later4, rfl, s4, hd4, hpn4, hpl4, M4, hl4, hdone⟩
        rw [List.getElem?_map] at hy
        obtain ⟨y, hy1, rfl⟩ := Option.map_eq_some_iff.mp hy
        obtain ⟨hyn, hT⟩ := mem_nbL.mp (List.mem_of_getElem? hy1)
        have hSn4 := bfs_len M4.toBfsW
        have nxt : ∀ {H5 : Hp} {S5 : List Ent} {later5 : List Nat}, Same H H5 → H5 d = some (.dK (entK befV S5)) → H5 pn = some (.lst (now.map pI)) → H5 pl = some (.lst (later5.map pI)) → Mid n T sh start dd now later5 (now.take i) S5 → S5.length = S.length + later5.length → (∀ z ∈ S4.map (·.1), z ∈ S5.map (·.1)) → (sh y = true ∨ y ∈ S5.map (·.1)) →
            ∃ v7' S' later', [some (V.ref m), some (pI start), some (V.ref ps), some (V.ref d), some (V.ref pn), some (V.ref pl), some (pI x), some (pI y)] = [some (.ref m), some (pI start), some (.ref ps), some (.ref d), some (.ref pn), some (.ref pl), some (pI x), v7'] ∧ Same H H5 ∧ H5 d = some (.dK (entK befV S')) ∧ H5 pn = some (.lst (now.map pI)) ∧ H5 pl = some (.lst (later'.map pI)) ∧ Mid n T sh start dd now later' (now.take i) S' ∧ S'.length = S.length + later'.length ∧ ∀ y' ∈ (nbL n T x).take (j + 1), sh y' = true ∨ y' ∈ S'.map (·.1) := fun s5 hd5 hpn5 hpl5 M5 hl5 sub hh => by
          refine ⟨_, _, _, rfl, s5, hd5, hpn5, hpl5, M5, hl5, fun y' hy' => ?_⟩
          rw [List.take_add_one, hy1] at hy'
          rcases List.mem_append.mp hy' with h | h
          · rcases hdone y' h with h | h
            · exact .inl h
            · exact .inr (sub _ h)
          · have e : y' = y := by simpa using h
            rw [e]
            exact hh
        refine ⟨_, rfl, _, rfl, d, _, rfl, DGet.k (k := .inl (y : Int)) hd4, _, rfl, ?_⟩
        rw [ent_some]
        refine ifN (fun c => ?_) (fun c => ?_)
        · have c : y ∉ S4.map (·.1) := of_decide_eq_false c
          refine ⟨_, rfl, _, rfl, _, _, _, _, rfl, rfl, SqL.of (s4 _ _ hps), atI_nat (j := y) (rowV_at hyn), _, rfl, ifN (fun c2 => ?_) (fun c2 => ?_)⟩
          · refine ⟨_, rfl, _, rfl, _, rfl, d, _, rfl, DPut.k (k := .inl (y : Int)) hd4 (by unfold entK; rw [List.length_map]; exact sizeBig (by omega)), ?_⟩
            have ep : putK (entK befV S4) (.inl (y : Int)) (pI x) = entK befV (S4 ++ [(y, some x, dd + 1)]) := ent_put befV (e := (y, some x, dd + 1)) c
            have hpl5 : (upd H4 d (.dK (putK (entK befV S4) (.inl (y : Int)) (pI x)))) pl = some (.lst (later4.map pI)) := by rw [upd_ne hpld.symm]; exact hpl4
            refine ⟨_, rfl, .inl ⟨rfl, _, SqL.of hpl5⟩, _, rfl, pl, _, _, rfl, rfl, hpl5, by rw [List.length_map]; exact sizeBig (by omega), ?_⟩
            refine nxt (sPut (sPut s4 hd) hplH) ?_ ?_ ?_ (mid_add M4 hxm hyn hT c2 c) (by rw [List.length_append, List.length_append, hl4]; simp; omega) (fun z hz => by rw [List.map_append]; exact List.mem_append.mpr (.inl hz)) (.inr (by rw [List.map_append]; exact List.mem_append.mpr (.inr (by simp))))
            · rw [upd_ne hpld, upd_same, ep]
            · rw [upd_ne hnpl, upd_ne (fun e => by rw [e, hd4] at hpn4; cases hpn4)]
              exact hpn4
            · rw [upd_same, List.map_append]
              rfl
          · exact nxt s4 hd4 hpn4 hpl4 M4 hl4 (fun z hz => hz) (.inl c2)
        · exact nxt s4 hd4 hpn4 hpl4 M4 hl4 (fun z hz => hz) (.inr (of_decide_eq_true c))
      · rintro σ H4 ⟨v7, S4, later4, rfl, s4, hd4, hpn4, hpl4, M4, hl4, hdone⟩
        rw [List.length_map, List.take_length] at hdone
        refine ⟨_, _, _, _, rfl, s4, hd4, hpn4, hpl4, ?_, hl4⟩
        rw [List.take_add_one, hx1]
        exact mid_done M4 hdone
    · rintro σ H3 ⟨v6, v7, S', later, rfl, s3, hd3, hpn3, hpl3, M3, hl3⟩
      rw [List.length_map, List.take_length] at M3
      exact ⟨_, rfl, pl, later, _, _, _, S', rfl, s3, hd3, hpl3, mid_next M3, hl3⟩
end
end Ns
/-! Own layer: ways, walked. -/
namespace Ns
open PySem PySem.Spec PyProof.Rows L2
local macro_rules | `(tactic| walk_at "look") => `(tactic| first | assumption | exact upd_same | (refine (upd_ne (by first | assumption | exact Ne.symm (by assumption))).trans ?_; walk_at "look"))
local macro_rules | `(tactic| walk_at "cond") => `(tactic| first | assumption | omega | (dsimp only; omega) | exact ⟨by omega, by omega⟩ | decide | exact ⟨by decide, by decide, by decide⟩ | exact .inr ⟨by decide, by decide⟩ | exact .inl ⟨by decide, by decide⟩ | exact .inr ⟨by omega, by omega⟩ | exact .inl ⟨by omega, by omega⟩)
local macro_rules | `(tactic| walk_at "rd1") => `(tactic| first
  | refine ⟨_, rfl, ?_⟩
  | refine ⟨_, _, rfl, rfl, ?_⟩
  | refine ⟨rfl, ?_⟩
  | refine ⟨_, _, rfl, rfl, (by walk_at "cond"), ?_⟩
  | refine ⟨_, _, _, _, rfl, rfl, SqL.of (by walk_at "look"), rfl, ?_⟩
  | refine ⟨_, _, _, _, rfl, rfl, SqT.of (by walk_at "look"), rfl, ?_⟩
  | refine ⟨_, _, _, _, rfl, rfl, (by walk_at "look"), rfl, ?_⟩
  | refine .inl ⟨_, rfl, ?_⟩
  | refine ⟨.inl ⟨rfl, _, SqL.of (by walk_at "look")⟩, ?_⟩
  | refine ⟨_, _, rfl, ⟨by omega, by omega, by omega, by omega⟩, ?_⟩
  | refine ⟨_, rfl, (by omega), (by omega), ?_⟩
  | refine And.intro (by walk_at "cond") ?_)
local macro_rules | `(tactic| walk_at "rd") => `(tactic| repeat (walk_at "rd1"))
abbrev N_traced : List Str := ["before", "end", "out"]
theorem sc_traced : FnScope N_traced ["before", "end"] (defScope s_traced) := ⟨rfl, rfl, rfl, by decide +kernel, rfl, by decide +kernel, by decide +kernel⟩
section
variable {P : Program} {w : World} {K : PySem.W.Frag} {mg : Str → Option Value} {base : Heap}
theorem rd_same {H H' : Hp} {d : Addr} {o : HO} (s : Same H H') (h : Rd H d o) : Rd H' d o := by
  rcases h with h | ⟨od, h⟩
  · exact .inl (s _ _ h)
  · exact .inr ⟨od, s _ _ h⟩
def sp_traced : Sp := fun vs H Q _ => ∃ (d : Addr) (S : List Ent) (y : Nat) (R : List Nat), vs = [.ref d, pI y] ∧ Rd H d (.dK (entK befV S)) ∧ (S.map (·.1)).Nodup ∧ TrR S (y :: R) ∧ R.length ≤ 10000 ∧
  ∀ (t : Addr) H', Same H H' → H t = none → H' t = some (.tup ((y :: R).reverse.map pI)) → Q (.ref t) H'
theorem cal_traced (A : At K mg "traced" s_traced) (B : Bi mg) : Cal P w K mg base 1 "traced" sp_traced := by
  have nd := sc_traced.nd
  refine A.cal sc_traced (fun _ _ _ _ _ _ us hl => match us, hl with | [_, _], _ => rfl) ?_ fun f cdv A' outer s H vs Q E hr h => ⟨_, (pss_cons (ps_set (i := 2) nd rfl (.inl rfl) (pe_lst (pa_cons (pv 1) pa_nil)))
  (pss_cons (ps_while passOwn (pt_cmpR op_notN (pe_dget (hu_of hr) (pv 0) (pe_ix (ix_listK (K := K) rfl) (pv 2) (pe_un un_neg pe_int) (fun _ _ => rfl)) (fun _ _ => rfl)) pe_non (nomark _)) (pss_one (ps_expr (pe_bm PySem.F.plainAttrs_list PySem.F.slot_list_append PySem.F.type_list_append mt_append (pv 2) (pa_cons (pe_dget (hu_of hr) (pv 0) (pe_ix (ix_listK (K := K) rfl) (pv 2) (pe_un un_neg pe_int) (fun _ _ => rfl)) (fun _ _ => rfl)) pa_nil)))))
  (pss_one (ps_ret (pe_callTy (call_tuple_ofK (K := K) rfl) (by rfl) B.tuple (by decide +kernel) (pa_cons (pe_revLK (K := K) rfl (pv 2)) pa_nil)))))), ?_⟩
  · rintro vs H Q E ⟨d, S, y, R, rfl, _⟩
    rfl
  · obtain ⟨d, S, y, R, rfl, hd, ndS, hT, hl, q⟩ := h
    refine ⟨_, rfl, by show 1 ≤ sizeLine; decide, fun po hpo => ?_⟩
    have s1 := same_laid (o := .lst [pI y]) hpo
    refine ⟨fun mm σ H1 => ∃ k, k < (y :: R).length ∧ σ = [some (.ref d), some (pI y), some (.ref po)] ∧ Same H H1 ∧ H1 po = some (.lst (((y :: R).take (k + 1)).map pI)) ∧ mm = (y :: R).length - k, ⟨_, 0, by simp, rfl, s1, upd_same, rfl⟩, ?_⟩
    rintro mm σ H1 ⟨k, hk, rfl, s1, hpo1, rfl⟩
    have hlast := take_last hk
    have hent := hT.2 k (y :: R)[k] (by simp)
    have hval : DGet H1 d (pI (y :: R)[k]) (some (parV ((y :: R)[k + 1]?))) := by
      have h : DGet H1 d (kV (.inl ((y :: R)[k] : Int))) (valV (entK befV S) (.inl ((y :: R)[k] : Int))) := .inl ⟨_, _, rd_same s1 hd, rfl, rfl⟩
      rw [ent_val befV ndS _ hent] at h
      exact h
    refine ⟨_, rfl, _, rfl, _, rfl, _, _, _, _, rfl, rfl, SqL.of hpo1, atI_end hlast, d, _, rfl, hval, rfl, _, rfl, ?_⟩
    cases e : (y :: R)[k + 1]? with
    | none =>
      refine iteF ?_
      have ek : k + 1 = (y :: R).length := by
        have := List.getElem?_eq_none_iff.mp e
        omega
      rw [ek, List.take_length] at hpo1
      refine ⟨_, rfl, po, _, rfl, SqL.of hpo1, fun p2 hp2 => ⟨p2, _, rfl, .inl ⟨SqL.of upd_same, fun t ht => ?_⟩⟩⟩
      refine q t _ (s1.trans (sNew (same_laid hp2) ht)) (gone (s1.trans (same_laid hp2)) ht) ?_
      rw [upd_same, List.map_reverse]
    | some x =>
      refine iteT ?_
      have hk1 : k + 1 < (y :: R).length := (List.getElem?_eq_some_iff.mp e).1
      refine ⟨fun σ' H' => ∃ k', k' = k + 1 ∧ k' < (y :: R).length ∧ σ' = [some (.ref d), some (pI y), some (.ref po)] ∧ Same H H' ∧ H' po = some (.lst (((y :: R).take (k' + 1)).map pI)), fun σ' H' ⟨k', e1, e2, e3, e4, e5⟩ => ⟨_, by omega, k', e2, e3, e4, e5, rfl⟩, ?_⟩
      rw [e] at hval
      refine ⟨_, rfl, .inl ⟨rfl, _, SqL.of hpo1⟩, _, rfl, _, rfl, _, rfl, _, _, _, _, rfl, rfl, SqL.of hpo1, atI_end hlast, d, _, rfl, hval, po, _, _, rfl, rfl, hpo1, ?_, ?_⟩
      · rw [List.length_map, List.length_take]
        simp only [List.length_cons] at *
        exact sizeBig (by omega)
      refine ⟨k + 1, rfl, hk1, rfl, sPut s1 hpo, ?_⟩
      rw [upd_same, List.take_add_one (i := k + 1), e, List.map_append]
      rfl
end
end Ns
/-! Own layer: pieces of a net, in plain Lean. -/
namespace Ns
open PySem PySem.Spec PyProof.Rows L2
def opn : Nat → Bool := fun _ => false
/-- y is reached from a -/
def Rch (n : Nat) (T : Tm) (a y : Nat) : Prop := ∃ S, Bfs n T opn a S ∧ y ∈ S.map (·.1)
theorem Rch.lt {n : Nat} {T : Tm} {a y : Nat} (h : Rch n T a y) : y < n := by
  obtain ⟨S, B, h⟩ := h
  obtain ⟨e, he, rfl⟩ := List.mem_map.mp h
  exact B.lt e he
theorem Rch.step {n : Nat} {T : Tm} {a x y : Nat} (h : Rch n T a x) (t : T x y = true) (hy : y < n) : Rch n T a y := by
  obtain ⟨S, B, h⟩ := h
  obtain ⟨e, he, rfl⟩ := List.mem_map.mp h
  obtain ⟨py, d, h1, _⟩ := B.closed e.1 e.2.1 e.2.2 y he t hy rfl
  exact ⟨S, B, List.mem_map.mpr ⟨_, h1, rfl⟩⟩
open Classical in
noncomputable def comp (n : Nat) (T : Tm) (a : Nat) : List Nat := (List.range n).filter fun y => decide (Rch n T a y)
end Ns
/-! Own layer L: sorted of a dict whose keys are ints. -/
namespace Ns
open PySem PySem.Spec PyProof.Rows L2
theorem int_is {n : Int} : ∀ {v : Value}, Value.isInt n v = true → ∃ t, v = .int n t
  | .int m t, h => by
    have e : m = n := by
      have h : (m == n) = true := h
      exact beq_iff_eq.mp h
    subst e
    exact ⟨t, rfl⟩
  | .none, h => by cases h
  | .bool _, h => by cases h
  | .str _ _, h => by cases h
  | .ref _, h => by cases h
  | .type _, h => by cases h
  | .builtin _, h => by cases h
  | .float _ _, h => by cases h
  | .bytes _ _, h => by cases h
  | .notImplemented, h => by cases h
  | .ellipsis, h => by cases h
theorem keys_ints {P : Program} {w : World} {es : List DictEntry} {vs : List (Key × Value)} (h : Pairs (mixKind P w) es vs) : ∀ {ns : List Int}, vs.map (·.1) = ns.map Sum.inl → IntsAre (es.map (·.key)) ns := by
  induction h with
  | nil =>
    intro ns e
    cases ns with
    | nil => exact .nil
    | cons _ _ => cases e
  | cons hk hv r ih =>
    intro ns e
    cases ns with
    | nil => cases e
    | cons n ns =>
      rw [List.map_cons, List.map_cons] at e
      injection e with e1 e2
      rw [e1] at hk
      obtain ⟨t, et⟩ := int_is (n := n) hk
      rw [List.map_cons, et]
      exact .cons n t (ih e2)
theorem kv_keys : ∀ {kvs : List (Key × V)} {vs : List (Key × Value)}, KV kvs vs → vs.map (·.1) = kvs.map (·.1)
  | _, _, .nil => rfl
  | _, _, .cons h r => by
    rw [List.map_cons, List.map_cons, kv_keys r, h.1]
section
variable {X : Cx}
def rSortedKI : List V → Hp → VK → Prop := fun vs H Q => ∃ (d : Addr) (kvs : List (Key × V)) (ks : List Int), vs = [V.ref d] ∧ H d = some (.dK kvs) ∧ kvs.map (·.1) = ks.map Sum.inl ∧
  ∀ (ns : List Int) (p : Addr), ns.Perm ks → ns.Pairwise (· ≤ ·) → H p = none → Q (.ref p) (upd H p (.lst (ns.map V.int)))
theorem cr_sortedKI (hc : X.calm = true) : CallR X (.builtin "sorted") rSortedKI := by
  intro pins s σ H vs us Q I r h
  obtain ⟨d, kvs, ks, rfl, hd, hks, q⟩ := h
  obtain ⟨u, rfl, rx⟩ := vals1 r
  cases rx
  obtain ⟨z, hs, vs, pr, o, es, ep, ho, hx, hdt, _, he, hn⟩ := dk_of I.hok hd
  have hI := keys_ints he ((kv_keys pr).trans hks)
  have l1 : es.size = ks.length := by
    have := hI.length
    rw [List.length_map, Array.length_toList] at this
    exact this
  have l2 : kvs.length = ks.length := by
    have := congrArg List.length hks
    rwa [List.length_map, List.length_map] at this
  refine Calls.call_function_entry PyProof.Rows.kind_sorted PyProof.Rows.plain_sorted PyProof.Rows.entry_sorted (PyProof.Rows.args_sorted1 _) ?_
  unfold Builtin.«sorted»
  refine wpAny_bind (m := checkCount "sorted" 1 1 _) (wpAny_pure ?_)
  refine wpAny_bind (PySem.W.kdu_collect (A := X.A.in1) (kdl_raw hs hx hdt) (I.ok.hd hc) ho (by omega) fun h' tk acc hk it => ?_)
  have ea : acc.toList = es.toList.map (·.key) := by
    apply List.ext_getElem?
    intro j
    rw [List.getElem?_map]
    cases hj : acc.toList[j]? with
    | none =>
      have h1 := List.getElem?_eq_none_iff.mp hj
      rw [Array.length_toList, it.1] at h1
      rw [List.getElem?_eq_none_iff.mpr (by rw [Array.length_toList]; exact h1)] <;> rfl
    | some v =>
      obtain ⟨en, h1, h2⟩ := it.2 j v (by rw [← Array.getElem?_toList]; exact hj)
      have h3 : es.toList[j]? = some en := by rw [Array.getElem?_toList]; exact h1
      rw [h3, h2] <;> rfl
  have I1 : Inv X pins σ H { s with heap := h', toks := tk } := I.kept hk
  have hi : IntsAre acc.toList ks := by rw [ea]; exact hI
  have hal : acc.toList.length ≤ sizeLine := by rw [hi.length, ← l2]; exact z
  refine wpAny_bind (wpAny_newList ?_ hal)
  have hoL : (h'.push (seqObj "list" acc.toList.toArray 0)).get? h'.objs.size = some (seqObj "list" acc.toList.toArray 0) := Heap.get?_push_size _ rfl
  show wpAny _ _ _ _ _ { s with heap := h'.push (seqObj "list" acc.toList.toArray 0), toks := tk }
  refine wpAny_bind (wpAny_holding (wpAny_call_entry PyProof.Rows.slot_list_sort ⟨_, hoL, rfl⟩ PyProof.Rows.entry_list_sort
    (SrtO.list_sort_ord (s := { s with heap := h'.push (seqObj "list" acc.toList.toArray 0), toks := tk }) SrtO.swo_int hoL hal (fun h2 => SrtO.ints_sortable hi h2) fun out h1 h2 => ⟨_, rfl, ?_⟩) (PyProof.Rows.args_list_sort _)))
  obtain ⟨k1, k2, k3⟩ := SrtO.ints_out hi h1 h2
  obtain ⟨e', he'⟩ := PyProof.Rows.sortedHeap_at (vs := acc.toList) (out := out.toArray) hoL
  have hlen : ((out.map SrtO.iv).map V.int).length ≤ sizeLine := by
    rw [List.length_map, k2.length_eq, ← l2]
    exact z
  have new : ObjOk X.prog X.w (upd H h'.objs.size (.lst ((out.map SrtO.iv).map V.int))) (sortedHeap (h'.push (seqObj "list" acc.toList.toArray 0)) h'.objs.size acc.toList out.toArray) h'.objs.size (.lst ((out.map SrtO.iv).map V.int)) := ⟨hlen, out, e', vals_of_ints k1, he'⟩
  refine wpAny_pure ⟨_, rfl, .ref h'.objs.size, upd H h'.objs.size (.lst ((out.map SrtO.iv).map V.int)), I1.laid (t' := tk) (fun b u e => ?_) (Nat.le_refl _) new, rfl, q _ _ k2 k3 (I1.hok.fresh (Nat.le_refl _))⟩
  have hb : b < h'.objs.size := Heap.lt_size e
  rw [PyProof.Rows.sortedHeap_old (Nat.ne_of_lt hb) (by rw [size_push']; exact Nat.lt_succ_of_lt hb)]
  exact Heap.get?_push_of_some _ e
end
end Ns
/-! Own layer: pieces, walked. -/
namespace Ns
open PySem PySem.Spec PyProof.Rows L2
local macro_rules | `(tactic| walk_at "look") => `(tactic| first | assumption | exact upd_same | (refine (upd_ne (by first | assumption | exact Ne.symm (by assumption))).trans ?_; walk_at "look"))
local macro_rules | `(tactic| walk_at "cond") => `(tactic| first | assumption | omega | (dsimp only; omega) | exact ⟨by omega, by omega⟩ | decide | exact ⟨by decide, by decide, by decide⟩ | exact .inr ⟨by decide, by decide⟩ | exact .inl ⟨by decide, by decide⟩ | exact .inr ⟨by omega, by omega⟩ | exact .inl ⟨by omega, by omega⟩)
local macro_rules | `(tactic| walk_at "rd1") => `(tactic| first
  | refine ⟨_, rfl, ?_⟩
  | refine ⟨_, _, rfl, rfl, ?_⟩
  | refine ⟨rfl, ?_⟩
  | refine ⟨_, _, rfl, rfl, (by walk_at "cond"), ?_⟩
  | refine ⟨_, _, _, _, rfl, rfl, SqL.of (by walk_at "look"), rfl, ?_⟩
  | refine ⟨_, _, _, _, rfl, rfl, SqT.of (by walk_at "look"), rfl, ?_⟩
  | refine ⟨_, _, _, _, rfl, rfl, (by walk_at "look"), rfl, ?_⟩
  | refine .inl ⟨_, rfl, ?_⟩
  | refine ⟨.inl ⟨rfl, _, SqL.of (by walk_at "look")⟩, ?_⟩
  | refine ⟨_, _, rfl, ⟨by omega, by omega, by omega, by omega⟩, ?_⟩
  | refine ⟨_, rfl, (by omega), (by omega), ?_⟩
  | refine And.intro (by walk_at "cond") ?_)
local macro_rules | `(tactic| walk_at "rd") => `(tactic| repeat (walk_at "rd1"))
section
variable {P : Program} {w : World} {K : PySem.W.Frag} {mg : Str → Option Value} {base : Heap}
theorem good_len {n : Nat} {ties : List (Nat × Nat)} (h : Good n ties) : ties.length ≤ n * n := by
  refine Nat.le_trans (sub_len ties (allPairs n) ?_ fun p hp => mem_allPairs.mpr (h.1 p hp)) (allPairs_len n)
  refine h.2.imp fun {a b} hab e => ?_
  subst e
  unfold ltP at hab
  omega
end
end Ns
/-! Own layer: a way, walked. -/
namespace Ns
open PySem PySem.Spec PyProof.Rows L2
local macro_rules | `(tactic| walk_at "look") => `(tactic| first | assumption | exact upd_same | (refine (upd_ne (by first | assumption | exact Ne.symm (by assumption))).trans ?_; walk_at "look"))
local macro_rules | `(tactic| walk_at "cond") => `(tactic| first | assumption | omega | (dsimp only; omega) | exact ⟨by omega, by omega⟩ | decide | exact ⟨by decide, by decide, by decide⟩ | exact .inr ⟨by decide, by decide⟩ | exact .inl ⟨by decide, by decide⟩ | exact .inr ⟨by omega, by omega⟩ | exact .inl ⟨by omega, by omega⟩)
local macro_rules | `(tactic| walk_at "rd1") => `(tactic| first
  | refine ⟨_, rfl, ?_⟩
  | refine ⟨_, _, rfl, rfl, ?_⟩
  | refine ⟨rfl, ?_⟩
  | refine ⟨_, _, rfl, rfl, (by walk_at "cond"), ?_⟩
  | refine ⟨_, _, _, _, rfl, rfl, SqL.of (by walk_at "look"), rfl, ?_⟩
  | refine ⟨_, _, _, _, rfl, rfl, SqT.of (by walk_at "look"), rfl, ?_⟩
  | refine ⟨_, _, _, _, rfl, rfl, (by walk_at "look"), rfl, ?_⟩
  | refine .inl ⟨_, rfl, ?_⟩
  | refine ⟨.inl ⟨rfl, _, SqL.of (by walk_at "look")⟩, ?_⟩
  | refine ⟨_, _, rfl, ⟨by omega, by omega, by omega, by omega⟩, ?_⟩
  | refine ⟨_, rfl, (by omega), (by omega), ?_⟩
  | refine And.intro (by walk_at "cond") ?_)
local macro_rules | `(tactic| walk_at "rd") => `(tactic| repeat (walk_at "rd1"))
section
variable {P : Program} {w : World} {K : PySem.W.Frag} {mg : Str → Option Value} {base : Heap}
/-- what a way back tells: none when the end is not reached, else the way of an entry -/
def WayOut (H : Hp) (S : List Ent) (b : Nat) (u : V) : Prop := (u = .non ∧ b ∉ S.map (·.1)) ∨ ∃ (t : Addr) (R : List Nat) (p : Option Nat), u = .ref t ∧ H t = some (.tup ((b :: R).reverse.map pI)) ∧ TrR S (b :: R) ∧ (b, p, R.length) ∈ S
theorem tr_len {n : Nat} {T : Tm} {sh : Nat → Bool} {start : Nat} {S : List Ent} (B : BfsW n T sh start S) {R : List Nat} (h : TrR S R) : R.length ≤ n := by
  have := sub_len R (List.range n) (tr_nodup B.nd h) fun y hy => by
    obtain ⟨k, hk⟩ := List.getElem?_of_mem hy
    exact List.mem_range.mpr (B.lt _ (h.2 k y hk))
  rwa [List.length_range] at this
end
end Ns
/-! Own layer: a way off a point, walked. -/
namespace Ns
open PySem PySem.Spec PyProof.Rows L2
local macro_rules | `(tactic| walk_at "look") => `(tactic| first | assumption | exact upd_same | (refine (upd_ne (by first | assumption | exact Ne.symm (by assumption))).trans ?_; walk_at "look"))
local macro_rules | `(tactic| walk_at "cond") => `(tactic| first | assumption | omega | (dsimp only; omega) | exact ⟨by omega, by omega⟩ | decide | exact ⟨by decide, by decide, by decide⟩ | exact .inr ⟨by decide, by decide⟩ | exact .inl ⟨by decide, by decide⟩ | exact .inr ⟨by omega, by omega⟩ | exact .inl ⟨by omega, by omega⟩)
local macro_rules | `(tactic| walk_at "rd1") => `(tactic| first
  | refine ⟨_, rfl, ?_⟩
  | refine ⟨_, _, rfl, rfl, ?_⟩
  | refine ⟨rfl, ?_⟩
  | refine ⟨_, _, rfl, rfl, (by walk_at "cond"), ?_⟩
  | refine ⟨_, _, _, _, rfl, rfl, SqL.of (by walk_at "look"), rfl, ?_⟩
  | refine ⟨_, _, _, _, rfl, rfl, SqT.of (by walk_at "look"), rfl, ?_⟩
  | refine ⟨_, _, _, _, rfl, rfl, (by walk_at "look"), rfl, ?_⟩
  | refine .inl ⟨_, rfl, ?_⟩
  | refine ⟨.inl ⟨rfl, _, SqL.of (by walk_at "look")⟩, ?_⟩
  | refine ⟨_, _, rfl, ⟨by omega, by omega, by omega, by omega⟩, ?_⟩
  | refine ⟨_, rfl, (by omega), (by omega), ?_⟩
  | refine And.intro (by walk_at "cond") ?_)
local macro_rules | `(tactic| walk_at "rd") => `(tactic| repeat (walk_at "rd1"))
abbrev N_way_off : List Str := ["net", "a", "b", "c", "x", "around", "shut", "before"]
theorem sc_way_off : FnScope N_way_off ["net", "a", "b", "c"] (defScope s_way_off) := ⟨rfl, rfl, rfl, by decide +kernel, rfl, by decide +kernel, by decide +kernel⟩
section
variable {P : Program} {w : World} {K : PySem.W.Frag} {mg : Str → Option Value} {base : Heap}
/-- shut: the point c and what is tied to it -/
def offF (T : Tm) (c : Nat) (x : Nat) : Bool := decide (x = c) || T c x
theorem inV_nats (x : Nat) : ∀ r : List Nat, inV (pI x) (r.map pI) = decide (x ∈ r)
  | [] => by simp [inV]
  | y :: r => by
    have h := inV_nats x r
    unfold inV at *
    rw [List.map_cons, List.any_cons, h, Bool.eq_iff_iff, Bool.or_eq_true, decide_eq_true_eq, decide_eq_true_eq, List.mem_cons]
    have e : (eqV (pI y) (pI x) = true) ↔ x = y := by
      show (((y : Int) == (x : Int)) = true) ↔ _
      rw [beq_iff_eq]
      omega
    rw [e]
theorem all_flat : ∀ r : List Nat, (r.map pI).all flatV = true
  | [] => rfl
  | _ :: r => by rw [List.map_cons, List.all_cons, all_flat r]; rfl
variable {P : Program} {w : World} {K : PySem.W.Frag} {mg : Str → Option Value} {base : Heap}
def Bo : Hp → V → Bool → Prop := fun _ v b => v = .bl b
theorem persBo : PersT Bo := fun _ _ _ _ _ h => h
theorem bo_eq {H : Hp} : ∀ {us : List V} {bs : List Bool}, Paired (Bo H) us bs → us = bs.map V.bl
  | _, _, .nil => rfl
  | _, _, .cons h r => by rw [h, bo_eq r]; rfl
def OffOut (H : Hp) (n : Nat) (T : Tm) (a b c : Nat) (u : V) : Prop := ((offF T c a = true ∨ offF T c b = true) ∧ u = .non) ∨ (offF T c a = false ∧ offF T c b = false ∧ ∃ S, Bfs n T (offF T c) a S ∧ WayOut H S b u)
def sp_way_off : Sp := fun vs H Q _ => ∃ (v : V) (n a b c : Nat) (ties : List (Nat × Nat)), vs = [v, pI a, pI b, pI c] ∧ Net H v n ties ∧ n ≤ 40 ∧ Good n ties ∧ a < n ∧ b < n ∧ c < n ∧
  ∀ (u : V) H', Same H H' → OffOut H' n (tieT ties) a b c u → Q u H'
theorem cal_way_off {CB CP : Addr} (A : At K mg "way_off" s_way_off) (B : Bi mg) (c_neighbours_nets : Cal P w K mg base 1 "neighbours_nets" sp_neighbours) (c_reached : Cal P w K mg base 1 "reached" sp_reached) (c_traced : Cal P w K mg base 1 "traced" sp_traced) (c_check_net : Cal P w K mg base 4 "check_net" (sp_check_net K CB)) (c_check_points : Cal P w K mg base 3 "check_points" sp_check_points) : Cal P w K mg base 5 "way_off" sp_way_off := by
  have nd := sc_way_off.nd
  refine A.cal sc_way_off (fun _ _ _ _ _ _ us hl => match us, hl with | [_, _, _, _], _ => rfl) ?_ fun f cdv A' outer s H vs Q E hr h => ⟨_, (pss_cons (ps_expr (pe_cal c_check_net hr (by first | decide | omega) (by rfl) passE (pa_cons (pv 0) pa_nil)))
  (pss_cons (ps_for passOwn rfl (pi_tupK (K := K) rfl (pe_tup (pa_cons (pv 1) (pa_cons (pv 2) (pa_cons (pv 3) pa_nil))))) (pg_name (i := 4) nd rfl (.inl rfl)) (pss_one (ps_expr (pe_cal c_check_points hr (by first | decide | omega) (by rfl) passE (pa_cons (pv 0) (pa_cons (pe_tup (pa_cons (pv 4) pa_nil)) pa_nil))))))
  (pss_cons (ps_set (i := 5) nd rfl (.inr rfl) (pe_cal c_neighbours_nets hr (by first | decide | omega) (by rfl) passE (pa_cons (pv 0) pa_nil)))
  (pss_cons (ps_setLc (i := 6) (own := [("x", 4)]) rfl nd rfl rfl (sw_true rfl rfl rfl (by decide +kernel)) (pi_range1 (by rfl) B.range (pa_cons (pe_ix (ix_tupK (K := K) rfl) (pv 0) pe_int (fun _ _ => rfl)) pa_nil)) (blkOk_by (own := [("x", 4)]) (N := N_way_off) (sc := defScope s_way_off) (by decide +kernel)) (fun _ _ _ _ _ => (pg_name (i := 4) nd rfl (.inl rfl) (.inr rfl))) (fun _ _ _ _ _ => pts_nil) (fun _ _ _ _ _ => (pe_or (pe_cmpR op_eq (pv 4) (pv 3) (nomark _)) (pe_one (pe_cmpR (op_in_seqK (K := K) rfl) (pv 4) (pe_ix (ix_listK (K := K) rfl) (pv 5) (pv 3) (fun _ _ => rfl)) rfl)))))
  (pss_cons (ps_if (PW.pt (pw_or (pt_val (pe_ix (ix_listK (K := K) rfl) (pv 6) (pv 1) (fun _ _ => rfl))) (pw_or1 (pt_val (pe_ix (ix_listK (K := K) rfl) (pv 6) (pv 2) (fun _ _ => rfl)))))) (pss_one (ps_ret pe_non)) pss_nil)
  (pss_cons (ps_set (i := 7) nd rfl (.inl rfl) (pe_cal c_reached hr (by first | decide | omega) (by rfl) passE (pa_cons (pv 5) (pa_cons (pv 1) (pa_cons (pv 6) pa_nil)))))
  (pss_one (ps_ret (pe_ifExp (pt_cmp (pc_din (hu_of hr) (pv 2) (pv 7)) rfl) (pe_cal c_traced hr (by first | decide | omega) (by rfl) passE (pa_cons (pv 7) (pa_cons (pv 2) pa_nil))) pe_non))))))))), ?_⟩
  · rintro vs H Q E ⟨v, n, a, b, c, ties, rfl, _⟩
    rfl
  · obtain ⟨v, n, a, b, c, ties, rfl, hN, hn, hg, ha, hb, hc, q⟩ := h
    have hlt := good_len hg
    have hnn : n * n ≤ 40 * 40 := Nat.mul_le_mul hn hn
    refine ⟨_, rfl, v, netD n ties, rfl, dp_net hN, fun _ H0 s0 => ?_, fun e => by rw [isNetD_net.mpr ⟨hn, hg⟩] at e; cases e⟩
    have hN0 := hN.keep (sKt s0)
    refine ⟨_, rfl, _, rfl, _, rfl, by show 3 ≤ sizeLine; decide, fun tt htt => ?_⟩
    have s1 := s0.trans (same_laid (o := .tup [pI a, pI b, pI c]) htt)
    have ht1 : (upd H0 tt (.tup [pI a, pI b, pI c])) tt = some (.tup ([a, b, c].map pI)) := upd_same
    generalize (upd H0 tt (.tup [pI a, pI b, pI c])) = H1 at s1 ht1
    refine ⟨tt, rfl, ⟨_, SqT.of ht1⟩, for_tup (K := K) (a := tt) (xs := [a, b, c].map pI) (fun i σ H2 => ∃ v4, σ = [some v, some (pI a), some (pI b), some (pI c), v4, none, none, none] ∧ Same H1 H2) ⟨none, rfl, Same.refl _⟩ (fun i σ H2 _ ⟨_, _, e⟩ => SqT.of (e _ _ ht1)) ?_ ?_⟩
    · rintro i xv σ H2 hx ⟨v4, rfl, s2⟩
      rw [List.getElem?_map] at hx
      obtain ⟨x, hx1, rfl⟩ := Option.map_eq_some_iff.mp hx
      have hxm := List.mem_of_getElem? hx1
      have hxn : x < n := by
        simp only [List.mem_cons, List.not_mem_nil, or_false] at hxm
        rcases hxm with rfl | rfl | rfl <;> assumption
      refine ⟨_, rfl, _, rfl, by show 1 ≤ sizeLine; decide, fun ta hta => ⟨v, n, ties, ta, [x], rfl, hN.keep (sKt ((s1.trans s2).trans (same_laid hta))), upd_same, by simpa using hxn, by simp, by show 1 ≤ 100; omega, ?_⟩⟩
      exact ⟨_, rfl, s2.trans (same_laid hta)⟩
    · rintro σ H2 ⟨v4, rfl, s2⟩
      have s02 := s1.trans s2
      refine ⟨_, rfl, v, n, ties, rfl, hN.keep (sKt s02), by omega, hg, by omega, fun m H3 s3 nm hA => ?_⟩
      have s03 := s02.trans s3
      obtain ⟨tn, un, rfl, htn, hun⟩ := id (hN.keep (sKt s03))
      refine ⟨_, rfl, _, _, _, _, rfl, rfl, SqT.of htn, rfl, _, rfl, by omega, by omega, fun D hD => ?_⟩
      refine comp_range (lo := 0) (n := (n : Int).toNat) (sizeBig (by omega)) (fun x => some (offF (tieT ties) c x)) persBo hD ?_ ?_
      · intro x H4 Yes No hx s4 yes no
        rw [Int.zero_add]
        have hxn : x < n := by omega
        refine ⟨rfl, iteT (B := No H4) ?_⟩
        refine ⟨_, rfl, _, rfl, rfl, _, rfl, ?_⟩
        by_cases e : x = c
        · have e1 : decide (V.int (x : Int) = pI c) = true := by rw [e]; exact decide_eq_true rfl
          rw [e1]
          refine iteT ?_
          exact yes true (by show some (offF _ _ _) = _; unfold offF; rw [decide_eq_true e]; rfl) _ _ (Same.refl H4) rfl
        · have e1 : decide (V.int (x : Int) = pI c) = false := decide_eq_false fun h => e (by injection h with h; omega)
          rw [e1]
          refine iteF ?_
          refine ⟨_, rfl, rdA2 hA s4 rfl rfl hc fun aa haa => ⟨aa, _, rfl, .inl (SqL.of (s4 _ _ haa)), rfl, all_flat _, ?_⟩⟩
          have e2 : inV (pI x) ((nbL n (tieT ties) c).map pI) = tieT ties c x := by
            rw [inV_nats]
            by_cases t : tieT ties c x = true
            · rw [t]; exact decide_eq_true (mem_nbL.mpr ⟨hxn, t⟩)
            · rw [Bool.not_eq_true] at t
              rw [t]; exact decide_eq_false fun h => by rw [(mem_nbL.mp h).2] at t; cases t
          refine yes _ rfl _ _ (Same.refl H4) ?_
          show V.bl (inV (pI x) ((nbL n (tieT ties) c).map pI)) = V.bl (offF (tieT ties) c x)
          unfold offF
          rw [e2, decide_eq_false e]
          rfl
      · intro H4 ys s4 hD4 pr
        have eys : ys = rowV n (offF (tieT ties) c) := by
          rw [bo_eq pr, List.filterMap_eq_map', List.map_map, show ((n : Int)).toNat = n from Int.toNat_natCast n]
          rfl
        subst eys
        have s04 := s03.trans s4
        refine ⟨_, rfl, _, rfl, _, _, _, _, rfl, rfl, SqL.of hD4, atI_nat (j := a) (rowV_at ha), _, rfl, ?_⟩
        cases ea : offF (tieT ties) c a with
        | true =>
          refine iteT (iteT ?_)
          exact q _ _ s04 (.inl ⟨.inl ea, rfl⟩)
        | false =>
          refine iteF ?_
          refine ⟨_, rfl, _, rfl, _, _, _, _, rfl, rfl, SqL.of hD4, atI_nat (j := b) (rowV_at hb), _, rfl, ?_⟩
          cases eb : offF (tieT ties) c b with
          | true =>
            refine iteT ?_
            exact q _ _ s04 (.inl ⟨.inr eb, rfl⟩)
          | false =>
            refine iteF ?_
            refine ⟨_, rfl, _, rfl, _, rfl, m, D, n, a, tieT ties, _, rfl, hA.same s4, ha, by omega, hD4, fun d S H5 s5 nd5 B5 hd5 => ?_⟩
            have s05 := s04.trans s5
            refine ⟨_, rfl, _, rfl, d, _, rfl, DGet.k (k := .inl (b : Int)) hd5, ?_⟩
            refine ⟨_, rfl, ?_⟩
            rw [ent_some]
            by_cases hb5 : b ∈ S.map (·.1)
            · rw [decide_eq_true hb5]
              obtain ⟨⟨y, p, dd⟩, he, e⟩ := List.mem_map.mp hb5
              have e : y = b := e
              subst e
              obtain ⟨R, hR, hl⟩ := tr_ex B5.toBfsW dd y p he
              refine iteT ?_
              have hlen := tr_len B5.toBfsW hR
              rw [List.length_cons] at hlen
              exact ⟨_, rfl, _, rfl, d, S, y, R, rfl, .inl hd5, B5.nd, hR, by omega, fun t H6 s6 nt ht => q _ H6 (s05.trans s6) (.inr ⟨ea, eb, S, B5, .inr ⟨t, R, p, rfl, ht, hR, by rw [hl]; exact he⟩⟩)⟩
            · rw [decide_eq_false hb5]
              refine iteF ?_
              exact q _ H5 s05 (.inr ⟨ea, eb, S, B5, .inl ⟨rfl, hb5⟩⟩)
end
end Ns
/-! Own layer: a net without one tie, in plain Lean. -/
namespace Ns
open PySem PySem.Spec PyProof.Rows L2
/-- ties without one -/
def cutT (T : Tm) (x y : Nat) : Tm := fun u v => T u v && !(decide (u = x ∧ v = y) || decide (u = y ∧ v = x))
end Ns
/-! Own layer: a ring with fewest points, walked. -/
namespace Ns
open PySem PySem.Spec PyProof.Rows L2
local macro_rules | `(tactic| walk_at "look") => `(tactic| first | assumption | exact upd_same | (refine (upd_ne (by first | assumption | exact Ne.symm (by assumption))).trans ?_; walk_at "look"))
local macro_rules | `(tactic| walk_at "cond") => `(tactic| first | assumption | omega | (dsimp only; omega) | exact ⟨by omega, by omega⟩ | decide | exact ⟨by decide, by decide, by decide⟩ | exact .inr ⟨by decide, by decide⟩ | exact .inl ⟨by decide, by decide⟩ | exact .inr ⟨by omega, by omega⟩ | exact .inl ⟨by omega, by omega⟩)
local macro_rules | `(tactic| walk_at "rd1") => `(tactic| first
  | refine ⟨_, rfl, ?_⟩
  | refine ⟨_, _, rfl, rfl, ?_⟩
  | refine ⟨rfl, ?_⟩
  | refine ⟨_, _, rfl, rfl, (by walk_at "cond"), ?_⟩
  | refine ⟨_, _, _, _, rfl, rfl, SqL.of (by walk_at "look"), rfl, ?_⟩
  | refine ⟨_, _, _, _, rfl, rfl, SqT.of (by walk_at "look"), rfl, ?_⟩
  | refine ⟨_, _, _, _, rfl, rfl, (by walk_at "look"), rfl, ?_⟩
  | refine .inl ⟨_, rfl, ?_⟩
  | refine ⟨.inl ⟨rfl, _, SqL.of (by walk_at "look")⟩, ?_⟩
  | refine ⟨_, _, rfl, ⟨by omega, by omega, by omega, by omega⟩, ?_⟩
  | refine ⟨_, rfl, (by omega), (by omega), ?_⟩
  | refine And.intro (by walk_at "cond") ?_)
local macro_rules | `(tactic| walk_at "rd") => `(tactic| repeat (walk_at "rd1"))
section
variable {P : Program} {w : World} {K : PySem.W.Frag} {mg : Str → Option Value} {base : Heap}
/-- the best ring so far -/
def RingOut (H : Hp) (n : Nat) (T : Tm) (ts : List (Nat × Nat)) (u : V) : Prop :=
  (u = .non ∧ ∀ p ∈ ts, ∃ S, Bfs n (cutT T p.1 p.2) opn p.1 S ∧ p.2 ∉ S.map (·.1)) ∨
  ∃ (t : Addr) (R : List Nat) (q : Nat × Nat) (S : List Ent) (pr : Option Nat), u = .ref t ∧ H t = some (.tup ((q.2 :: R).reverse.map pI)) ∧ q ∈ ts ∧ Bfs n (cutT T q.1 q.2) opn q.1 S ∧ TrR S (q.2 :: R) ∧ (q.2, pr, R.length) ∈ S ∧ ∀ p ∈ ts, ∃ S', Bfs n (cutT T p.1 p.2) opn p.1 S' ∧ ∀ pp d, (p.2, pp, d) ∈ S' → R.length ≤ d
theorem RingOut.same {H H' : Hp} {n : Nat} {T : Tm} {ts : List (Nat × Nat)} {u : V} (s : Same H H') (h : RingOut H n T ts u) : RingOut H' n T ts u := by
  rcases h with h | ⟨t, R, q, S, pr, h1, h2, h3⟩
  · exact .inl h
  · exact .inr ⟨t, R, q, S, pr, h1, s _ _ h2, h3⟩
end
end Ns
/-! Own layer O: a tuple turned round by [::-1]. -/
/-! Own layer: closed, halves, odd_ring, walked. -/
namespace Ns
open PySem PySem.Spec PyProof.Rows L2
local macro_rules | `(tactic| walk_at "look") => `(tactic| first | assumption | exact upd_same | (refine (upd_ne (by first | assumption | exact Ne.symm (by assumption))).trans ?_; walk_at "look"))
local macro_rules | `(tactic| walk_at "cond") => `(tactic| first | assumption | omega | (dsimp only; omega) | exact ⟨by omega, by omega⟩ | decide | exact ⟨by decide, by decide, by decide⟩ | exact .inr ⟨by decide, by decide⟩ | exact .inl ⟨by decide, by decide⟩ | exact .inr ⟨by omega, by omega⟩ | exact .inl ⟨by omega, by omega⟩)
local macro_rules | `(tactic| walk_at "rd1") => `(tactic| first
  | refine ⟨_, rfl, ?_⟩
  | refine ⟨_, _, rfl, rfl, ?_⟩
  | refine ⟨rfl, ?_⟩
  | refine ⟨_, _, rfl, rfl, (by walk_at "cond"), ?_⟩
  | refine ⟨_, _, _, _, rfl, rfl, SqL.of (by walk_at "look"), rfl, ?_⟩
  | refine ⟨_, _, _, _, rfl, rfl, SqT.of (by walk_at "look"), rfl, ?_⟩
  | refine ⟨_, _, _, _, rfl, rfl, (by walk_at "look"), rfl, ?_⟩
  | refine .inl ⟨_, rfl, ?_⟩
  | refine ⟨.inl ⟨rfl, _, SqL.of (by walk_at "look")⟩, ?_⟩
  | refine ⟨_, _, rfl, ⟨by omega, by omega, by omega, by omega⟩, ?_⟩
  | refine ⟨_, rfl, (by omega), (by omega), ?_⟩
  | refine And.intro (by walk_at "cond") ?_)
local macro_rules | `(tactic| walk_at "rd") => `(tactic| repeat (walk_at "rd1"))
end Ns
/-! Own layer: rings, and rings of an odd number out of two ways, in plain Lean. -/
namespace Ns
open PySem PySem.Spec PyProof.Rows L2
theorem nodup_rev {l : List Nat} (h : l.Nodup) : l.reverse.Nodup := by
  rw [List.Nodup, List.pairwise_reverse]
  exact h.imp fun {a b} h e => h e.symm
structure IsRing (n : Nat) (T : Tm) (R : List Nat) : Prop where
  nd : R.Nodup
  len : 3 ≤ R.length
  lt : ∀ x ∈ R, x < n
  tie : ∀ k x y, R[k]? = some x → R[k + 1]? = some y → T x y = true
  last : ∀ x y, R.getLast? = some x → R[0]? = some y → T x y = true
theorem tr_rev {S : List Ent} {R : List Nat} (h : TrR S R) {k z : Nat} (hz : R.reverse[k]? = some z) : (z, (if k = 0 then none else R.reverse[k - 1]?), k) ∈ S := by
  have hk : k < R.length := by
    have := (List.getElem?_eq_some_iff.mp hz).1
    rwa [List.length_reverse] at this
  rw [List.getElem?_reverse hk] at hz
  have h1 := h.2 _ _ hz
  rw [show R.length - 1 - (R.length - 1 - k) = k by omega] at h1
  by_cases e : k = 0
  · rw [if_pos e]
    rw [List.getElem?_eq_none_iff.mpr (show R.length ≤ R.length - 1 - k + 1 by omega)] at h1
    exact h1
  · rw [if_neg e, List.getElem?_reverse (by omega), show R.length - 1 - (k - 1) = R.length - 1 - k + 1 by omega]
    exact h1
end Ns
/-! Own layer: long rings without a chord, and points that can be taken away, in plain Lean. -/
namespace Ns
open PySem PySem.Spec PyProof.Rows L2
/-- joined by ties over points that are allowed -/
inductive Cn (T : Tm) (A : Nat → Prop) : Nat → Nat → Prop where
  | refl {a : Nat} : A a → Cn T A a a
  | step {a b c : Nat} : Cn T A a b → T b c = true → A c → Cn T A a c
theorem Cn.mono {T : Tm} {A B : Nat → Prop} (h : ∀ u, A u → B u) {a b : Nat} (x : Cn T A a b) : Cn T B a b := by
  induction x with
  | refl h1 => exact .refl (h _ h1)
  | step _ t h1 ih => exact .step ih t (h _ h1)
theorem Cn.right {T : Tm} {A : Nat → Prop} {a b : Nat} (x : Cn T A a b) : A b := by
  cases x with
  | refl h => exact h
  | step _ _ h => exact h
theorem Cn.trans {T : Tm} {A : Nat → Prop} {a b c : Nat} (x : Cn T A a b) (y : Cn T A b c) : Cn T A a c := by
  induction y with
  | refl h => exact x
  | step _ t h1 ih => exact .step ih t h1
theorem Cn.symm {T : Tm} {A : Nat → Prop} (sy : ∀ i j, T i j = T j i) {a b : Nat} (x : Cn T A a b) : Cn T A b a := by
  induction x with
  | refl h => exact .refl h
  | step h t h1 ih => exact Cn.trans (Cn.step (.refl h1) (by rw [sy]; exact t) h.right) ih
/-- no point has two untied neighbours that are joined off its other neighbours -/
def CondC (T : Tm) (A : Nat → Prop) : Prop := ∀ x y z, A x → A y → A z → T x y = true → T x z = true → y ≠ z → T y z = false → ¬ Cn T (fun u => A u ∧ u ≠ x ∧ (T x u = true → u = y ∨ u = z)) y z
theorem CondC.part {T : Tm} {A B : Nat → Prop} (h : CondC T A) (s : ∀ u, B u → A u) : CondC T B := fun x y z hx hy hz t1 t2 ne t3 c =>
  h x y z (s _ hx) (s _ hy) (s _ hz) t1 t2 ne t3 (c.mono fun _ hu => ⟨s _ hu.1, hu.2⟩)
/-- a point whose neighbours are tied to one another -/
def Simp (T : Tm) (L : List Nat) (x : Nat) : Prop := x ∈ L ∧ ∀ y ∈ L, ∀ z ∈ L, T x y = true → T x z = true → y ≠ z → T y z = true
open Classical in
theorem dirac {T : Tm} (sy : ∀ i j, T i j = T j i) (ir : ∀ i, T i i = false) : ∀ (k : Nat) (L : List Nat), L.length ≤ k → CondC T (· ∈ L) →
    (L ≠ [] → ∃ s, Simp T L s) ∧ ∀ x ∈ L, (∃ u ∈ L, u ≠ x ∧ T x u = false) → ∃ s, Simp T L s ∧ s ≠ x ∧ T x s = false
  | 0, L, hl, _ => by
    have e : L = [] := List.length_eq_zero_iff.mp (by omega)
    subst e
    exact ⟨fun h => absurd rfl h, fun x hx => by cases hx⟩
  | k + 1, L, hl, hC => by
    have D2 : ∀ x ∈ L, (∃ u ∈ L, u ≠ x ∧ T x u = false) → ∃ s, Simp T L s ∧ s ≠ x ∧ T x s = false := by
      rintro x hx ⟨w, hw, hwx, hwt⟩
      let O : Nat → Prop := fun v => v ∈ L ∧ v ≠ x ∧ T x v = false
      let W : Nat → Prop := fun u => Cn T O w u
      let S : Nat → Prop := fun u => u ∈ L ∧ T x u = true ∧ ∃ v, W v ∧ T u v = true
      have memB : ∀ u, u ∈ L.filter (fun u => decide (W u ∨ S u)) ↔ W u ∨ S u := fun u => by
        rw [List.mem_filter, decide_eq_true_eq]
        exact ⟨fun h => h.2, fun h => ⟨h.elim (fun h => h.right.1) (fun h => h.1), h⟩⟩
      have memW : ∀ u, u ∈ L.filter (fun u => decide (W u)) ↔ W u := fun u => by
        rw [List.mem_filter, decide_eq_true_eq]
        exact ⟨fun h => h.2, fun h => ⟨h.right.1, h⟩⟩
      have lenB : (L.filter (fun u => decide (W u ∨ S u))).length < L.length := List.length_filter_lt_length_iff_exists.mpr ⟨x, hx, fun h => by
        rcases of_decide_eq_true h with h | h
        · exact h.right.2.1 rfl
        · have := h.2.1
          rw [ir] at this
          cases this⟩
      have lenW : (L.filter (fun u => decide (W u))).length < L.length := List.length_filter_lt_length_iff_exists.mpr ⟨x, hx, fun h => (of_decide_eq_true h : W x).right.2.1 rfl⟩
      have CB : CondC T (· ∈ L.filter (fun u => decide (W u ∨ S u))) := hC.part fun u hu => (List.mem_filter.mp hu).1
      have CW : CondC T (· ∈ L.filter (fun u => decide (W u))) := hC.part fun u hu => (List.mem_filter.mp hu).1
      have nx : ∀ {u}, T x u = true → u ≠ x := fun {u} h e => by rw [e, ir] at h; cases h
      have clq : ∀ s s', S s → S s' → s ≠ s' → T s s' = true := by
        rintro s s' ⟨h1, h2, v, h3, h4⟩ ⟨h1', h2', v', h3', h4'⟩ ne
        cases t : T s s' with
        | true => rfl
        | false =>
          refine absurd ?_ (hC x s s' hx h1 h1' h2 h2' ne t)
          have sub : ∀ u, O u → (u ∈ L ∧ u ≠ x ∧ (T x u = true → u = s ∨ u = s')) := fun u hu => ⟨hu.1, hu.2.1, fun h => by rw [hu.2.2] at h; cases h⟩
          have a1 : Cn T (fun u => u ∈ L ∧ u ≠ x ∧ (T x u = true → u = s ∨ u = s')) s v := .step (.refl ⟨h1, nx h2, fun _ => .inl rfl⟩) h4 (sub _ h3.right)
          have a2 : Cn T (fun u => u ∈ L ∧ u ≠ x ∧ (T x u = true → u = s ∨ u = s')) v v' := ((h3.symm sy).trans h3').mono sub
          exact .step (a1.trans a2) (by rw [sy]; exact h4') ⟨h1', nx h2', fun _ => .inr rfl⟩
      have key : ∀ t, W t → Simp T (L.filter (fun u => decide (W u ∨ S u))) t → ∃ s, Simp T L s ∧ s ≠ x ∧ T x s = false := by
        intro t ht hs
        have hO := ht.right
        have nb : ∀ y ∈ L, T t y = true → y ∈ L.filter (fun u => decide (W u ∨ S u)) := fun y hy ty => by
          rw [memB]
          cases txy : T x y with
          | true => exact .inr ⟨hy, txy, t, ht, by rw [sy]; exact ty⟩
          | false =>
            refine .inl (.step ht ty ⟨hy, fun e => ?_, txy⟩)
            rw [e, sy, hO.2.2] at ty
            cases ty
        exact ⟨t, ⟨hO.1, fun y hy z hz ty tz ne => hs.2 y (nb y hy ty) z (nb z hz tz) ty tz ne⟩, hO.2.1, hO.2.2⟩
      by_cases c : ∃ s, S s ∧ ∃ u ∈ L.filter (fun u => decide (W u ∨ S u)), u ≠ s ∧ T s u = false
      · obtain ⟨s, hs, u, hu, hus, hut⟩ := c
        obtain ⟨t, ht, hts, htt⟩ := (dirac sy ir k _ (by omega) CB).2 s ((memB s).mpr (.inr hs)) ⟨u, hu, hus, hut⟩
        rcases (memB t).mp ht.1 with h | h
        · exact key t h ht
        · rw [clq s t hs h (fun e => hts e.symm)] at htt
          cases htt
      · have c : ∀ s, S s → ∀ u, (W u ∨ S u) → u ≠ s → T s u = true := fun s hs u hu ne => by
          cases e : T s u with
          | true => rfl
          | false => exact absurd ⟨s, hs, u, (memB u).mpr hu, ne, e⟩ c
        have hww : W w := .refl ⟨hw, hwx, hwt⟩
        obtain ⟨t, ht⟩ := (dirac sy ir k _ (by omega) CW).1 (List.ne_nil_of_mem ((memW w).mpr hww))
        have hWt := (memW t).mp ht.1
        refine key t hWt ⟨(memB t).mpr (.inl hWt), fun y hy z hz ty tz ne => ?_⟩
        rcases (memB y).mp hy with h | h
        · rcases (memB z).mp hz with h' | h'
          · exact ht.2 y ((memW y).mpr h) z ((memW z).mpr h') ty tz ne
          · rw [sy]
            exact c z h' y (.inl h) ne
        · exact c y h z ((memB z).mp hz) (fun e => ne e.symm)
    refine ⟨fun hne => ?_, D2⟩
    obtain ⟨x, hx⟩ := List.exists_mem_of_ne_nil L hne
    by_cases c : ∃ u ∈ L, u ≠ x ∧ T x u = false
    · obtain ⟨s, h, _⟩ := D2 x hx c
      exact ⟨s, h⟩
    · have c : ∀ u ∈ L, u ≠ x → T x u = true := fun u hu ne => by
        cases e : T x u with
        | true => rfl
        | false => exact absurd ⟨u, hu, ne, e⟩ c
      have mX : ∀ u, u ∈ L.filter (fun u => decide (u ≠ x)) ↔ u ∈ L ∧ u ≠ x := fun u => by rw [List.mem_filter, decide_eq_true_eq]
      have lenX : (L.filter (fun u => decide (u ≠ x))).length < L.length := List.length_filter_lt_length_iff_exists.mpr ⟨x, hx, fun h => of_decide_eq_true h rfl⟩
      have nx : ∀ u, T x u = true → u ≠ x := fun u h e => by rw [e, ir] at h; cases h
      by_cases e : L.filter (fun u => decide (u ≠ x)) = []
      · refine ⟨x, hx, fun y hy z hz ty _ _ => ?_⟩
        have := (mX y).mpr ⟨hy, nx y ty⟩
        rw [e] at this
        cases this
      · obtain ⟨s, hs⟩ := (dirac sy ir k _ (by omega) (hC.part fun u hu => (List.mem_filter.mp hu).1)).1 e
        refine ⟨s, ((mX s).mp hs.1).1, fun y hy z hz ty tz ne => ?_⟩
        by_cases ey : y = x
        · rw [ey]
          exact c z hz fun h => ne (ey.trans h.symm)
        · by_cases ez : z = x
          · rw [ez, sy]
            exact c y hy ey
          · exact hs.2 y ((mX y).mpr ⟨hy, ey⟩) z ((mX z).mpr ⟨hz, ez⟩) ty tz ne
/-- a ring of four points or more without a chord -/
structure LongRing (n : Nat) (T : Tm) (R : List Nat) : Prop extends IsRing n T R where
  four : 4 ≤ R.length
  bare : ∀ i j a b, R[i]? = some a → R[j]? = some b → i + 2 ≤ j → j - i < R.length - 1 → T a b = false
/-- no point of such a ring can be taken away -/
theorem LongRing.keeps {n : Nat} {T : Tm} (sy : ∀ i j, T i j = T j i) {R L : List Nat} (r : LongRing n T R) (sub : ∀ x ∈ R, x ∈ L) {x : Nat} (hx : x ∈ R) : ¬ Simp T L x := by
  intro s
  obtain ⟨k, hk⟩ := List.getElem?_of_mem hx
  have hl := (List.getElem?_eq_some_iff.mp hk).1
  have h4 := r.four
  have el : ∀ j, j < R.length → ∃ a, R[j]? = some a := fun j hj => ⟨_, List.getElem?_eq_getElem hj⟩
  have m : ∀ {j a : Nat}, R[j]? = some a → a ∈ L := fun h => sub _ (List.mem_of_getElem? h)
  have ne : ∀ {i j a b : Nat}, R[i]? = some a → R[j]? = some b → i ≠ j → a ≠ b := fun {i j a b} h1 h2 h e => by
    subst e
    have hi := (List.getElem?_eq_some_iff.mp h1).1
    exact h ((List.getElem?_inj hi r.nd).mp (h1.trans h2.symm))
  have fin : ∀ {i j a b : Nat}, R[i]? = some a → R[j]? = some b → T x a = true → T x b = true → i + 2 ≤ j → j - i < R.length - 1 → False := fun h1 h2 t1 t2 h h' => by
    have e := r.bare _ _ _ _ h1 h2 h h'
    rw [s.2 _ (m h1) _ (m h2) t1 t2 (ne h1 h2 (by omega))] at e
    cases e
  by_cases e0 : k = 0
  · subst e0
    obtain ⟨a, ha⟩ := el 1 (by omega)
    obtain ⟨b, hb⟩ := el (R.length - 1) (by omega)
    exact fin ha hb (r.tie 0 x a hk ha) (by rw [sy]; exact r.last b x (by rw [List.getLast?_eq_getElem?]; exact hb) hk) (by omega) (by omega)
  · obtain ⟨b, hb⟩ := el (k - 1) (by omega)
    have tb : T x b = true := by
      rw [sy]
      exact r.tie (k - 1) b x hb (by rw [show k - 1 + 1 = k by omega]; exact hk)
    by_cases e1 : k = R.length - 1
    · obtain ⟨a, ha⟩ := el 0 (by omega)
      exact fin ha hb (r.last x a (by rw [List.getLast?_eq_getElem?, ← e1]; exact hk) ha) tb (by omega) (by omega)
    · obtain ⟨a, ha⟩ := el (k + 1) (by omega)
      exact fin hb ha tb (r.tie k x a hk ha) (by omega) (by omega)
/-- a ring found: a shortest way off x from one neighbour to another one -/
theorem long_of {n : Nat} {T : Tm} {sh : Nat → Bool} {S : List Ent} {x y z : Nat} {R : List Nat} (sy : ∀ i j, T i j = T j i) (ir : ∀ i, T i i = false) (B : Bfs n T sh y S) (h : TrR S (z :: R)) (hx : x < n) (txy : T x y = true) (txz : T x z = true) (yz : y ≠ z) (tyz : T y z = false)
    (shx : sh x = true) (shy : sh y = false) (shN : ∀ u, T u x = true → u ≠ y → u ≠ z → sh u = true) : LongRing n T (x :: (z :: R).reverse) := by
  obtain ⟨W, s0⟩ := tr_way B.toBfsW h
  have v := fun k u => tr_rev h (k := k) (z := u)
  have nd : (z :: R).reverse.Nodup := nodup_rev (tr_nodup B.nd h)
  have e1 : (z :: R).reverse[(z :: R).reverse.length - 1]? = some z := by
    rw [List.getElem?_reverse (by simp), List.length_reverse, List.length_cons, show R.length + 1 - 1 - (R.length + 1 - 1) = 0 by omega]; rfl
  have hlen : 1 ≤ (z :: R).reverse.length := by simp
  generalize (z :: R).reverse = P at *
  have open_ : ∀ k u : Nat, P[k]? = some u → sh u = false := by
    intro k u hk
    cases k with
    | zero =>
      rw [← Option.some.inj (s0.symm.trans hk)]
      exact shy
    | succ k =>
      have hk' := (List.getElem?_eq_some_iff.mp hk).1
      exact (W.tie k P[k] u (by simp) hk).2
  have l3 : 3 ≤ P.length := by
    refine Nat.le_of_not_lt fun hlt => ?_
    by_cases e : P.length = 1
    · rw [e] at e1
      exact yz (Option.some.inj (s0.symm.trans e1))
    · rw [show P.length - 1 = 1 by omega] at e1
      rw [(W.tie 0 y z s0 e1).1] at tyz
      cases tyz
  have notx : x ∉ P := fun hm => by
    obtain ⟨k, hk⟩ := List.getElem?_of_mem hm
    rw [open_ k x hk] at shx
    cases shx
  have ndP : ∀ {i j a : Nat}, P[i]? = some a → P[j]? = some a → i = j := fun {i j a} h1 h2 => (List.getElem?_inj (List.getElem?_eq_some_iff.mp h1).1 nd).mp (h1.trans h2.symm)
  have mid : ∀ k u : Nat, P[k]? = some u → 1 ≤ k → k + 1 < P.length → T x u = false := fun k u hk k1 k2 => by
    cases t : T x u with
    | false => rfl
    | true =>
      have := open_ k u hk
      rw [shN u (by rw [sy]; exact t) (fun e => by
        subst e
        have := ndP s0 hk
        omega) (fun e => by
        subst e
        have := ndP e1 hk
        omega)] at this
      cases this
  refine ⟨⟨List.nodup_cons.mpr ⟨notx, nd⟩, by rw [List.length_cons]; omega, ?_, ?_, ?_⟩, by rw [List.length_cons]; omega, ?_⟩
  · intro u hu
    rcases List.mem_cons.mp hu with e | h
    · rw [e]; exact hx
    · exact W.lt u h
  · intro k a b ha hb
    match k with
    | 0 =>
      have e : x = a := Option.some.inj ha
      have e2 : y = b := Option.some.inj (s0.symm.trans hb)
      rw [← e, ← e2]
      exact txy
    | k + 1 => exact (W.tie k a b ha hb).1
  · intro a b ha hb
    rw [List.getLast?_eq_getElem?, List.length_cons, show P.length + 1 - 1 = (P.length - 1) + 1 by omega, List.getElem?_cons_succ] at ha
    have e : x = b := Option.some.inj hb
    have e2 : z = a := Option.some.inj (e1.symm.trans ha)
    rw [← e, ← e2, sy]
    exact txz
  · intro i j a b ha hb hij hlt
    rw [List.length_cons] at hlt
    obtain ⟨j, rfl⟩ : ∃ j', j = j' + 1 := ⟨j - 1, by omega⟩
    rw [List.getElem?_cons_succ] at hb
    match i with
    | 0 =>
      have e : x = a := Option.some.inj ha
      rw [← e]
      exact mid j b hb (by omega) (by omega)
    | i + 1 =>
      rw [List.getElem?_cons_succ] at ha
      cases t : T a b with
      | false => rfl
      | true =>
        have f1 := v _ _ ha
        have f2 := v _ _ hb
        obtain ⟨py, e, h1, h2⟩ := B.closed _ _ _ b f1 t (W.lt b (List.mem_of_getElem? hb)) (open_ _ _ hb)
        have e3 := congrArg (fun z : Ent => z.2.2) (ent_uniq B.nd f2 h1 rfl)
        dsimp only at e3
        omega
/-- no such way: none joined off x -/
theorem bfs_cn {n : Nat} {T : Tm} {sh : Nat → Bool} {S : List Ent} {y z : Nat} {A : Nat → Prop} (B : Bfs n T sh y S) (hA : ∀ u, A u → u < n ∧ sh u = false) (c : Cn T A y z) : z ∈ S.map (·.1) := by
  induction c with
  | refl _ => exact List.mem_map.mpr ⟨_, B.st, rfl⟩
  | step c t h ih =>
    obtain ⟨e, he, ee⟩ := List.mem_map.mp ih
    obtain ⟨py, d, h1, _⟩ := B.closed e.1 e.2.1 e.2.2 _ he (by rw [ee]; exact t) (hA _ h).1 (hA _ h).2
    exact List.mem_map.mpr ⟨_, h1, rfl⟩
end Ns
/-! Own layer, plain: stretches out of arrows of the opposite; no long ring and no three points. -/
namespace Ns
open PySem PySem.Spec PyProof.Rows L2
section
variable {n : Nat} {T : Tm}
theorem no4_of (S : SyT T) (h : CondC T (· < n)) : NoR4 T (· < n) := fun a b c d ha hb hc hd ac bd t1 t2 t3 t4 n1 n2 => by
  have ne : ∀ {x y : Nat}, T x y = true → x ≠ y := fun {x y} t e => by rw [e, S.ir] at t; cases t
  exact h a b d ha hb hd t1 (by rw [S.sy]; exact t4) bd n2 (.step (.step (.refl ⟨hb, Ne.symm (ne t1), fun _ => .inl rfl⟩) t2 ⟨hc, Ne.symm ac, fun e => by rw [n1] at e; cases e⟩) t3 ⟨hd, ne t4, fun _ => .inr rfl⟩)
theorem no5_of (S : SyT T) (h : CondC T (· < n)) : NoR5 T (· < n) := fun a b c d e ha hb hc hd he t1 t2 t3 t4 t5 n1 n2 n3 n4 n5 => by
  have ne : ∀ {x y : Nat}, T x y = true → x ≠ y := fun {x y} t e => by rw [e, S.ir] at t; cases t
  have be : b ≠ e := fun k => by
    rw [← k] at t4
    rw [S.sy, n3] at t4
    cases t4
  refine h a b e ha hb he t1 (by rw [S.sy]; exact t5) be n4 (.step (.step (.step (.refl ⟨hb, Ne.symm (ne t1), fun _ => .inl rfl⟩) t2 ⟨hc, ?_, fun k => by rw [n1] at k; cases k⟩) t3 ⟨hd, ?_, fun k => by rw [n2] at k; cases k⟩) t4 ⟨he, ne t5, fun _ => .inr rfl⟩)
  · intro k
    rw [k, n2] at t3
    cases t3
  · intro k
    rw [k, S.sy, n1] at t3
    cases t3
/-- where a long ring is, the net is not so -/
theorem long_not (S : SyT T) {R : List Nat} (r : LongRing n T R) : ¬ CondC T (· < n) := fun h => by
  have h2 : CondC T (· ∈ R) := h.part fun u hu => r.lt u hu
  have ne : R ≠ [] := fun e => by
    have := r.four
    rw [e] at this
    simp at this
  obtain ⟨s, hs⟩ := (dirac S.sy S.ir R.length R (Nat.le_refl _) h2).1 ne
  exact r.keeps S.sy (fun x hx => hx) hs.1 hs
/-- three points in order are enough -/
theorem noAT_of (S : SyT T) (h : ∀ a b c, a < b → b < c → c < n → Off T (· < n) c a b → Off T (· < n) b a c → Off T (· < n) a b c → False) : NoAT T (· < n) := fun a b c h1 h2 h3 => by
  have ab := h2.first.2.1
  have bc := h2.last.2.1
  have ac := h3.last.2.1
  have la := h1.first.1
  have lb := h1.last.1
  have lc := h2.last.1
  have s1 := h1.symm S
  have s2 := h2.symm S
  have s3 := h3.symm S
  rcases Nat.lt_or_gt_of_ne ab with x | x
  · rcases Nat.lt_or_gt_of_ne bc with y | y
    · rcases Nat.lt_or_gt_of_ne ac with z | z
      · exact h c a b z x lb s2 s3 h1
      · exact h a c b z y lb h2 h1 s3
    · exact h a b c x y lc h1 h2 h3
  · rcases Nat.lt_or_gt_of_ne ac with z | z
    · rcases Nat.lt_or_gt_of_ne bc with y | y
      · exact h c b a y x la s3 s2 s1
      · exact h b c a y z la h3 s1 s2
    · exact h b a c x z lc s1 h3 h2
end
section
variable {n : Nat} {ties : List (Nat × Nat)} (hg : Good n ties)
include hg
theorem coT_tie {x y : Nat} : tieE (coT n ties) x y ↔ x < n ∧ y < n ∧ x ≠ y ∧ tieT ties x y = false := by
  show decide _ = true ↔ _
  unfold coT
  rw [decide_eq_true_eq, List.mem_filter, List.mem_filter, mem_allPairs, mem_allPairs, Bool.not_eq_true', Bool.not_eq_true']
  constructor
  · rintro (⟨h1, h2⟩ | ⟨h1, h2⟩)
    · dsimp only at h1 h2
      exact ⟨by omega, h1.2, by omega, h2⟩
    · dsimp only at h1 h2
      exact ⟨h1.2, by omega, by omega, by rw [tieT_sym]; exact h2⟩
  · rintro ⟨h1, h2, h3, h4⟩
    rcases Nat.lt_or_gt_of_ne h3 with c | c
    · exact .inl ⟨⟨c, h2⟩, h4⟩
    · exact .inr ⟨⟨c, h1⟩, by rw [tieT_sym]; exact h4⟩
theorem co_good : Good n (coT n ties) := Good.filter _
/-- where no three points and no long rings are, the opposite's arrows go through -/
theorem co_noturn (S : SyT (tieT ties)) (c : CondC (tieT ties) (· < n)) (a : NoAT (tieT ties) (· < n)) : NoTurn (tieE (coT n ties)) := by
  have e : (· ∈ List.range n) = (· < n) := funext fun u => propext List.mem_range
  have := lb S (List.range n)
  rw [e] at this
  obtain ⟨lt, o⟩ := this (no4_of S c) (no5_of S c) a
  refine to_noturn (tieE_und (co_good hg)) (F := lt) ⟨fun {x y} h => ?_, fun {x y} h => ?_, fun h => o.asy h, fun h g => o.tr h g⟩
  · obtain ⟨h1, h2, h3, h4⟩ := o.of h
    exact (coT_tie hg).mpr ⟨h1, h2, h3, h4⟩
  · obtain ⟨h1, h2, h3, h4⟩ := (coT_tie hg).mp h
    exact o.tot h1 h2 h3 h4
/-- the arrows ahead of each point tell stretches -/
theorem stretch_ok (S : SyT (tieT ties)) (c4 : NoR4 (tieT ties) (· < n)) {F : Ar} (st : TO (tieE (coT n ties)) F) {Ls : Nat → List Nat} (hL : ∀ y, y < n → (Ls y).Nodup ∧ ∀ x, x ∈ Ls y ↔ F x y) {r : Nat → Nat}
    (hr : ∀ a, a < n → (∀ z, z < n → a ∉ Ls z → (Ls z).length ≤ r a) ∧ ∃ z, z < n ∧ a ∉ Ls z ∧ r a = (Ls z).length) :
    (∀ a, a < n → (Ls a).length ≤ r a) ∧ ∀ a b, a < n → b < n → a ≠ b → (tieT ties a b = true ↔ (Ls a).length ≤ r b ∧ (Ls b).length ≤ r a) := by
  have co := fun {x y} (h : F x y) => (coT_tie hg).mp (st.sub h)
  have ir : ∀ x, ¬ F x x := fun x h => (co h).2.2.1 rfl
  have tied : ∀ {x y : Nat}, x < n → y < n → x ≠ y → ¬ F x y → ¬ F y x → tieT ties x y = true := fun {x y} hx hy ne h1 h2 => by
    cases e : tieT ties x y
    · rcases st.all ((coT_tie hg).mpr ⟨hx, hy, ne, e⟩) with h | h
      · exact absurd h h1
      · exact absurd h h2
    · rfl
  -- what is ahead of two points
  have chain : ∀ {x y z w : Nat}, F x y → F z w → F x w ∨ F z y := fun {x y z w} h1 h2 => by
    apply Classical.byContradiction
    intro k
    have k1 : ¬ F x w := fun h => k (.inl h)
    have k2 : ¬ F z y := fun h => k (.inr h)
    obtain ⟨x0, y0, xy, txy⟩ := co h1
    obtain ⟨z0, w0, zw, tzw⟩ := co h2
    have xw : x ≠ w := fun e => k2 (st.go h2 (e ▸ h1))
    have zy : z ≠ y := fun e => k1 (st.go h1 (e ▸ h2))
    have xz : x ≠ z := fun e => k2 (e ▸ h1)
    have yw : y ≠ w := fun e => k1 (e ▸ h1)
    have t1 := tied x0 w0 xw k1 fun h => k2 (st.go h2 (st.go h h1))
    have t2 := tied z0 y0 zy k2 fun h => k1 (st.go h1 (st.go h h2))
    have t3 := tied x0 z0 xz (fun h => k1 (st.go h h2)) (fun h => k2 (st.go h h1))
    have t4 := tied y0 w0 yw (fun h => k1 (st.go h1 h)) (fun h => k2 (st.go h2 h))
    exact c4 x w y z x0 w0 y0 z0 xy (Ne.symm zw) t1 (by rw [S.sy]; exact t4) (by rw [S.sy]; exact t2) (by rw [S.sy]; exact t3) txy (by rw [S.sy]; exact tzw)
  have less : ∀ {x y z : Nat}, y < n → z < n → F x y → x ∉ Ls z → (Ls z).length < (Ls y).length := fun {x y z} hy hz h hn => by
    have sub : ∀ u ∈ x :: Ls z, u ∈ Ls y := fun u hu => by
      rcases List.mem_cons.mp hu with e | hu
      · rw [e]
        exact ((hL y hy).2 x).mpr h
      · rcases chain h (((hL z hz).2 u).mp hu) with k | k
        · exact absurd (((hL z hz).2 x).mpr k) hn
        · exact ((hL y hy).2 u).mpr k
    have := len_le_of_sub (List.nodup_cons.mpr ⟨hn, (hL z hz).1⟩) sub
    rw [List.length_cons] at this
    omega
  have low : ∀ a, a < n → (Ls a).length ≤ r a := fun a ha => (hr a ha).1 a ha fun h => ir a (((hL a ha).2 a).mp h)
  have far : ∀ {x y : Nat}, x < n → y < n → F x y → r x < (Ls y).length := fun {x y} hx hy h => by
    obtain ⟨z, hz, nz, e⟩ := (hr x hx).2
    rw [e]
    exact less hy hz h nz
  refine ⟨low, fun a b ha hb ne => ⟨fun t => ?_, fun ⟨h1, h2⟩ => tied ha hb ne (fun h => ?_) fun h => ?_⟩⟩
  · have n1 : ¬ F a b := fun h => by
      have := (co h).2.2.2
      rw [t] at this
      cases this
    have n2 : ¬ F b a := fun h => by
      have := (co h).2.2.2
      rw [S.sy, t] at this
      cases this
    exact ⟨(hr b hb).1 a ha fun h => n2 (((hL a ha).2 b).mp h), (hr a ha).1 b hb fun h => n1 (((hL b hb).2 a).mp h)⟩
  · have := far ha hb h
    omega
  · have := far hb ha h
    omega
end
end Ns
/-! Own layer: looks at papers of any data: points, numbers, rings. -/
namespace Ns
open PySem PySem.Spec PyProof.Rows L2
local macro_rules | `(tactic| walk_at "look") => `(tactic| first | assumption | exact upd_same | (refine (upd_ne (by first | assumption | exact Ne.symm (by assumption))).trans ?_; walk_at "look"))
local macro_rules | `(tactic| walk_at "cond") => `(tactic| first | assumption | omega | (dsimp only; omega) | exact ⟨by omega, by omega⟩ | decide | exact ⟨by decide, by decide, by decide⟩ | exact .inr ⟨by decide, by decide⟩ | exact .inl ⟨by decide, by decide⟩ | exact .inr ⟨by omega, by omega⟩ | exact .inl ⟨by omega, by omega⟩)
local macro_rules | `(tactic| walk_at "rd1") => `(tactic| first
  | refine ⟨_, rfl, ?_⟩
  | refine ⟨_, _, rfl, rfl, ?_⟩
  | refine ⟨rfl, ?_⟩
  | refine ⟨_, _, rfl, rfl, (by walk_at "cond"), ?_⟩
  | refine ⟨_, _, _, _, rfl, rfl, SqL.of (by walk_at "look"), rfl, ?_⟩
  | refine ⟨_, _, _, _, rfl, rfl, SqT.of (by walk_at "look"), rfl, ?_⟩
  | refine ⟨_, _, _, _, rfl, rfl, (by walk_at "look"), rfl, ?_⟩
  | refine .inl ⟨_, rfl, ?_⟩
  | refine ⟨.inl ⟨rfl, _, SqL.of (by walk_at "look")⟩, ?_⟩
  | refine ⟨_, _, rfl, ⟨by omega, by omega, by omega, by omega⟩, ?_⟩
  | refine ⟨_, rfl, (by omega), (by omega), ?_⟩
  | refine And.intro (by walk_at "cond") ?_)
local macro_rules | `(tactic| walk_at "rd") => `(tactic| repeat (walk_at "rd1"))
abbrev N_is_tuple : List Str := ["x", "many"]
theorem sc_is_tuple : FnScope N_is_tuple ["x", "many"] (defScope s_is_tuple) := ⟨rfl, rfl, rfl, by decide +kernel, rfl, by decide +kernel, by decide +kernel⟩
abbrev N_are_points : List Str := ["net", "x", "one"]
theorem sc_are_points : FnScope N_are_points ["net", "x"] (defScope s_are_points) := ⟨rfl, rfl, rfl, by decide +kernel, rfl, by decide +kernel, by decide +kernel⟩
abbrev N_are_numbers : List Str := ["x", "many", "one"]
theorem sc_are_numbers : FnScope N_are_numbers ["x", "many"] (defScope s_are_numbers) := ⟨rfl, rfl, rfl, by decide +kernel, rfl, by decide +kernel, by decide +kernel⟩
abbrev N_is_ring : List Str := ["net", "tied", "x", "k"]
theorem sc_is_ring : FnScope N_is_ring ["net", "tied", "x"] (defScope s_is_ring) := ⟨rfl, rfl, rfl, by decide +kernel, rfl, by decide +kernel, by decide +kernel⟩
abbrev N_law_whole : List Str := ["x"]
theorem sc_law_whole : FnScope N_law_whole ["x"] (defScope s_law_whole) := ⟨rfl, rfl, rfl, by decide +kernel, rfl, by decide +kernel, by decide +kernel⟩
abbrev N_law_points : List Str := ["x", "many", "net", "point"]
theorem sc_law_points : FnScope N_law_points ["x", "many", "net"] (defScope s_law_points) := ⟨rfl, rfl, rfl, by decide +kernel, rfl, by decide +kernel, by decide +kernel⟩
abbrev N_law_unlike : List Str := ["row", "k", "one"]
theorem sc_law_unlike : FnScope N_law_unlike ["row"] (defScope s_law_unlike) := ⟨rfl, rfl, rfl, by decide +kernel, rfl, by decide +kernel, by decide +kernel⟩
section
variable {P : Program} {w : World} {K : PySem.W.Frag} {mg : Str → Option Value} {base : Heap}
/-! ### data that is points, numbers -/
def ptOf (n : Nat) : PyData → Option Nat
  | .int i => if 0 ≤ i ∧ i < n then some i.toNat else none
  | _ => none
def ptsOf (n : Nat) : List PyData → Option (List Nat)
  | [] => some []
  | d :: r => match ptOf n d, ptsOf n r with
    | some x, some xs => some (x :: xs)
    | _, _ => none
theorem ptOf_some {n x : Nat} {d : PyData} (h : ptOf n d = some x) : d = .int (x : Int) ∧ x < n := by
  cases d with
  | int i =>
    unfold ptOf at h
    dsimp only at h
    split at h
    · rename_i c
      cases h
      exact ⟨by rw [Int.toNat_of_nonneg c.1], by omega⟩
    · cases h
  | _ => cases h
theorem ptsOf_some {n : Nat} : ∀ {ds : List PyData} {xs : List Nat}, ptsOf n ds = some xs → ds = xs.map (fun x : Nat => PyData.int (x : Int)) ∧ ∀ x ∈ xs, x < n
  | [], xs, h => by cases h; exact ⟨rfl, fun x h => nomatch h⟩
  | d :: r, xs, h => by
    unfold ptsOf at h
    cases h1 : ptOf n d with
    | none => rw [h1] at h; cases h
    | some x =>
      cases h2 : ptsOf n r with
      | none => rw [h1, h2] at h; cases h
      | some ys =>
        rw [h1, h2] at h
        cases h
        obtain ⟨e1, l1⟩ := ptOf_some h1
        obtain ⟨e2, l2⟩ := ptsOf_some h2
        refine ⟨by rw [e1, e2]; rfl, fun z hz => ?_⟩
        rcases List.mem_cons.mp hz with e | e
        · rw [e]; exact l1
        · exact l2 z e
def numOf : PyData → Option Int
  | .int i => some i
  | _ => none
def numsOf : List PyData → Option (List Int)
  | [] => some []
  | d :: r => match numOf d, numsOf r with
    | some x, some xs => some (x :: xs)
    | _, _ => none
theorem numsOf_some : ∀ {ds : List PyData} {xs : List Int}, numsOf ds = some xs → ds = xs.map PyData.int
  | [], xs, h => by cases h; rfl
  | d :: r, xs, h => by
    unfold numsOf at h
    cases d with
    | int x =>
      cases h2 : numsOf r with
      | none => rw [h2] at h; cases h
      | some ys =>
        rw [h2] at h
        cases h
        rw [numsOf_some h2]
        rfl
    | _ => cases h
theorem dps_vals {H : Hp} : ∀ {vs : List V} {xs : List Int}, DpAll K H vs (xs.map PyData.int) → vs = xs.map V.int
  | [], [], _ => rfl
  | _ :: _, x :: xs, .cons (.int _) t => by rw [dps_vals t]; rfl
theorem dps_pts {H : Hp} {vs : List V} {xs : List Nat} (h : DpAll K H vs (xs.map fun x : Nat => PyData.int (x : Int))) : vs = xs.map pI := by
  have h2 : DpAll K H vs ((xs.map fun x : Nat => (x : Int)).map PyData.int) := by rw [List.map_map]; exact h
  rw [dps_vals h2, ← map_pI]
def isPtD (n : Nat) (d : PyData) : Bool := (ptOf n d).isSome
def isTupD (d : PyData) (m : Int) : Bool := match d with
  | .tuple ds => decide ((ds.length : Int) = m)
  | _ => false
def arePtsD (n : Nat) (d : PyData) : Bool := match d with
  | .tuple ds => match ptsOf n ds with
    | some xs => decide xs.Nodup
    | none => false
  | _ => false
def areNumsD (d : PyData) (m : Int) : Bool := match d with
  | .tuple ds => decide ((ds.length : Int) = m) && (numsOf ds).isSome
  | _ => false
def lPtsD (d : PyData) (m : Int) (n : Nat) : Bool := match d with
  | .tuple ds => (decide (m < 0) || decide ((ds.length : Int) = m)) && (ptsOf n ds).isSome
  | _ => false
def ringB (T : Tm) (xs : List Nat) : Bool := (List.range xs.length).all fun k => T (prv xs k) (xs.getD k 0)
def ringD (n : Nat) (T : Tm) (d : PyData) : Bool := match d with
  | .tuple ds => match ptsOf n ds with
    | some xs => decide xs.Nodup && decide (3 ≤ xs.length) && ringB T xs
    | none => false
  | _ => false
theorem ptsOf_none {n : Nat} : ∀ {ds : List PyData} {d : PyData}, d ∈ ds → isPtD n d = false → ptsOf n ds = none
  | e :: r, d, h, hd => by
    unfold ptsOf
    rcases List.mem_cons.mp h with h | h
    · subst h
      cases h1 : ptOf n d with
      | none => rfl
      | some x => unfold isPtD at hd; rw [h1] at hd; cases hd
    · rw [ptsOf_none h hd]
      cases ptOf n e <;> rfl
theorem ptsOf_all {n : Nat} : ∀ {ds : List PyData}, (∀ d ∈ ds, isPtD n d = true) → ∃ xs, ptsOf n ds = some xs
  | [], _ => ⟨[], rfl⟩
  | d :: r, h => by
    obtain ⟨xs, e⟩ := ptsOf_all fun x hx => h x (List.mem_cons_of_mem _ hx)
    obtain ⟨x, e2⟩ := Option.isSome_iff_exists.mp (show (ptOf n d).isSome = true from h d (List.mem_cons_self ..))
    exact ⟨x :: xs, by unfold ptsOf; rw [e, e2]⟩
theorem isNumD_of (d : PyData) : isNumD d = (numOf d).isSome := by cases d <;> rfl
theorem numsOf_isSome : ∀ ds : List PyData, (numsOf ds).isSome = ds.all isNumD
  | [] => rfl
  | d :: r => by
    rw [List.all_cons, ← numsOf_isSome r, isNumD_of]
    cases h1 : numOf d <;> cases h2 : numsOf r <;> simp [numsOf, h1, h2]
theorem isPt_num {n : Nat} {d : PyData} (h : isNumD d = false) : isPtD n d = false := by
  cases d <;> first | rfl | cases h
theorem nodup_of_len : ∀ {ns es : List Int}, es.Nodup → (∀ x ∈ es, x ∈ ns) → es.length = ns.length → ns.Nodup
  | [], _, _, _, _ => List.nodup_nil
  | y :: r, es, nd, hs, hl => by
    rw [List.length_cons] at hl
    have hyr : y ∉ r := fun hy => by
      have := sub_len es r nd fun x hx => by
        rcases List.mem_cons.mp (hs x hx) with e | e
        · rw [e]; exact hy
        · exact e
      omega
    have hye : y ∈ es := by
      apply Decidable.byContradiction
      intro hn
      have := sub_len es r nd fun x hx => by
        rcases List.mem_cons.mp (hs x hx) with e | e
        · exact absurd (e ▸ hx) hn
        · exact e
      omega
    refine List.nodup_cons.mpr ⟨hyr, nodup_of_len (es := es.erase y) (nd.erase y) (fun x hx => ?_) ?_⟩
    · have h1 := (nd.mem_erase_iff).mp hx
      rcases List.mem_cons.mp (hs x h1.2) with e | e
      · exact absurd e h1.1
      · exact e
    · rw [List.length_erase_of_mem hye]
      omega
theorem all_range (ds : List PyData) : ((List.range ds.length).map fun i => isNumD (ds.getD i .none)).all id = ds.all isNumD := by
  rw [List.all_map]
  apply Bool.eq_iff_iff.mpr
  simp only [List.all_eq_true, List.mem_range]
  constructor
  · intro h d hd
    obtain ⟨i, hi⟩ := List.getElem?_of_mem hd
    have := h i (List.getElem?_eq_some_iff.mp hi).1
    simpa [List.getD_eq_getElem?_getD, hi] using this
  · intro h i hi
    have : ds.getD i .none ∈ ds := by
      rw [List.getD_eq_getElem?_getD, List.getElem?_eq_getElem hi]
      exact List.getElem_mem hi
    exact h _ this
/-- tuples are not long -/
def lenD (d : PyData) : Prop := ∀ ds, d = .tuple ds → ds.length ≤ 2000
def sp_is_pointD (K : PySem.W.Frag) : Sp := fun vs H Q _ => ∃ (nv v : V) (n : Nat) (ties : List (Nat × Nat)) (d : PyData), vs = [nv, v] ∧ Net H nv n ties ∧ Dp K H v d ∧ Q (.bl (isPtD n d)) H
theorem cal_is_pointD (A : At K mg "is_point" s_is_point) (B : Bi mg) (c_is_number : Cal P w K mg base 1 "is_number" (sp_is_number K)) : Cal P w K mg base 2 "is_point" (sp_is_pointD K) := by
  have nd := sc_is_point.nd
  refine A.cal sc_is_point (fun _ _ _ _ _ _ us hl => match us, hl with | [_, _], _ => rfl) ?_ fun f cdv A' outer s H vs Q E hr h => ⟨_, (pss_one (ps_ret (pe_and (pe_cal c_is_number hr (by first | decide | omega) (by rfl) passE (pa_cons (pv 1) pa_nil)) (pe_one (pe_chain op_le op_lt pe_int (pv 1) (pe_ix (ix_tupK (K := K) rfl) (pv 0) pe_int (fun _ _ => rfl))))))), ?_⟩
  · rintro vs H Q E ⟨v, n, x, ties, d, rfl, _⟩
    rfl
  · obtain ⟨nv, v, n, ties, d, rfl, hN, hd, q⟩ := h
    obtain ⟨t, u, rfl, h, _⟩ := hN
    refine ⟨_, rfl, v, d, rfl, hd, _, rfl, ?_⟩
    cases hd with
    | int i =>
      refine iteT ?_
      refine ⟨_, rfl, _, _, rfl, rfl, _, rfl, ifD (fun c => ?_) (fun c => ?_)⟩
      · refine ⟨_, rfl, _, _, _, _, rfl, rfl, SqT.of h, rfl, _, _, rfl, rfl, ?_⟩
        have e : isPtD n (.int i) = decide (i < (n : Int)) := by
          unfold isPtD ptOf
          dsimp only
          by_cases c2 : i < (n : Int)
          · rw [if_pos ⟨c, c2⟩, decide_eq_true c2]; rfl
          · rw [if_neg fun z => c2 z.2, decide_eq_false c2]; rfl
        rw [e] at q
        exact q
      · have e : isPtD n (.int i) = false := by
          unfold isPtD ptOf
          dsimp only
          rw [if_neg fun z => c z.1]; rfl
        rw [← e]
        exact q
    | _ => exact iteF q
def sp_is_tuple (K : PySem.W.Frag) : Sp := fun vs H Q _ => ∃ (v : V) (d : PyData) (m : Int), vs = [v, .int m] ∧ Dp K H v d ∧ Q (.bl (isTupD d m)) H
theorem cal_is_tuple (A : At K mg "is_tuple" s_is_tuple) (B : Bi mg) : Cal P w K mg base 1 "is_tuple" (sp_is_tuple K) := by
  have nd := sc_is_tuple.nd
  refine A.cal sc_is_tuple (fun _ _ _ _ _ _ us hl => match us, hl with | [_, _], _ => rfl) ?_ fun f cdv A' outer s H vs Q E hr h => ⟨_, (pss_one (ps_ret (pe_and (pe_callB (call_isiK' (K := K) rfl) (by rfl) B.isinstance (by decide +kernel) (pa_cons (pv 0) (pa_cons (pe_bltn (v := .ty "tuple") (u := .type "tuple") (by rfl) B.tuple (by decide +kernel) rfl) pa_nil))) (pe_one (pe_cmpR op_eq (pe_callB (call_lenK (K := K) rfl) (by rfl) B.len (by decide +kernel) (pa_cons (pv 0) pa_nil)) (pv 1) (nomark _)))))), ?_⟩
  · rintro vs H Q E ⟨v, d, m, rfl, _⟩
    rfl
  · obtain ⟨v, d, m, rfl, hd, q⟩ := h
    refine ⟨_, rfl, _, .ty "tuple", .type (tyName _), .type "tuple", _, rfl, .ty _, tyX_of hd, kit_ty (kit_isi _ "tuple" (by simp)), ?_⟩
    rw [isi_tuple]
    refine ⟨_, rfl, ifB (fun c => ?_) (fun c => ?_)⟩
    · cases hd with
      | tup hs ha =>
        refine ⟨_, rfl, _, _, rfl, .inr ⟨_, hs, rfl⟩, _, rfl, rfl, ?_⟩
        rw [DpAll.len ha]
        have e : ∀ a b : Int, decide (V.int a = V.int b) = decide (a = b) := fun a b => decide_eq_decide.mpr ⟨fun h => V.int.inj h, fun h => congrArg V.int h⟩
        unfold isTupD at q
        dsimp only at q
        rw [← e] at q
        exact q
      | _ => cases c
    · have e : isTupD d m = false := by cases d <;> first | rfl | cases c
      rw [← e]
      exact q
def sp_are_points (K : PySem.W.Frag) : Sp := fun vs H Q _ => ∃ (nv v : V) (n : Nat) (ties : List (Nat × Nat)) (d : PyData), vs = [nv, v] ∧ Net H nv n ties ∧ Dp K H v d ∧ lenD d ∧ Q (.bl (arePtsD n d)) H
theorem cal_are_points (A : At K mg "are_points" s_are_points) (B : Bi mg) (c_is_point : Cal P w K mg base 2 "is_point" (sp_is_pointD K)) : Cal P w K mg base 3 "are_points" (sp_are_points K) := by
  have nd := sc_are_points.nd
  refine A.cal sc_are_points (fun _ _ _ _ _ _ us hl => match us, hl with | [_, _], _ => rfl) ?_ fun f cdv A' outer s H vs Q E hr h => ⟨_, (pss_cons (ps_if (pt_not (pt_val (pe_callB (call_isiK' (K := K) rfl) (by rfl) B.isinstance (by decide +kernel) (pa_cons (pv 1) (pa_cons (pe_bltn (v := .ty "tuple") (u := .type "tuple") (by rfl) B.tuple (by decide +kernel) rfl) pa_nil))))) (pss_one (ps_ret pe_bl)) pss_nil)
  (pss_cons (ps_for passOwn rfl (pi_tupK (K := K) rfl (pv 1)) (pg_name (i := 2) nd rfl (.inl rfl)) (pss_one (ps_if (pt_not (pt_val (pe_cal c_is_point hr (by first | decide | omega) (by rfl) passE (pa_cons (pv 0) (pa_cons (pv 2) pa_nil))))) (pss_one (ps_ret pe_bl)) pss_nil)))
  (pss_one (ps_ret (pe_cmpR op_eq (pe_lenSetT (K := K) rfl rfl (by rfl) B.len (by rfl) B.set_ (pv 1)) (pe_callB (call_lenK (K := K) rfl) (by rfl) B.len (by decide +kernel) (pa_cons (pv 1) pa_nil)) (nomark _)))))), ?_⟩
  · rintro vs H Q E ⟨v, n, x, ties, d, rfl, _⟩
    rfl
  · obtain ⟨nv, v, n, ties, d, rfl, hN, hd, hl, q⟩ := h
    refine ⟨_, rfl, _, .ty "tuple", .type (tyName _), .type "tuple", _, rfl, .ty _, tyX_of hd, kit_ty (kit_isi _ "tuple" (by simp)), ?_⟩
    rw [isi_tuple]
    refine ⟨_, rfl, ?_⟩
    cases hd with
    | tup hs ha =>
      rename_i a xs ds
      refine iteF ?_
      have lh := DpAll.len ha
      have lds := hl ds rfl
      refine ⟨_, rfl, a, rfl, ⟨_, hs⟩, for_tup (K := K) (a := a) (xs := xs) (fun i σ H1 => ∃ v2, σ = [some nv, some (.ref a), v2] ∧ H1 = H ∧ ∀ d ∈ ds.take i, isPtD n d = true) ⟨none, rfl, rfl, fun d h => nomatch h⟩ (fun i σ H1 _ ⟨_, _, e, _⟩ => by rw [e]; exact hs) ?_ ?_⟩
      · rintro i y σ H1 hy ⟨v2, rfl, rfl, hall⟩
        obtain ⟨d, hd1, hd2⟩ := dpAt ha hy
        refine ⟨_, rfl, _, rfl, nv, y, n, ties, d, rfl, hN, hd2, _, rfl, ifN (fun c => ?_) (fun c => ?_)⟩
        · have e : arePtsD n (.tuple ds) = false := by
            unfold arePtsD
            dsimp only
            rw [ptsOf_none (List.mem_of_getElem? hd1) c]
          rw [e] at q
          exact q
        · refine ⟨_, rfl, rfl, fun e he => ?_⟩
          rw [List.take_add_one, hd1] at he
          rcases List.mem_append.mp he with he | he
          · exact hall e he
          · rw [List.mem_singleton.mp he]
            exact c
      · rintro σ H1 ⟨v2, rfl, rfl, hall⟩
        rw [lh, List.take_length] at hall
        obtain ⟨ps, hps⟩ := ptsOf_all hall
        obtain ⟨e1, e2⟩ := ptsOf_some hps
        subst e1
        have ex := dps_pts ha
        subst ex
        rw [List.length_map] at lds
        refine ⟨_, rfl, a, ps.map (fun x : Nat => (x : Int)), rfl, ?_, by rw [List.length_map]; exact lds, fun es nde hes => ?_⟩
        · rw [← map_pI]
          exact hs
        refine ⟨_, rfl, _, _, rfl, .inr ⟨_, hs, rfl⟩, rfl, ?_⟩
        unfold arePtsD at q
        dsimp only at q
        rw [hps] at q
        dsimp only at q
        have e : decide (V.int es.length = V.int (ps.map pI).length) = decide ps.Nodup := by
          refine decide_eq_decide.mpr ⟨fun h => ?_, fun h => ?_⟩
          · have h2 : es.length = ps.length := by
              have := V.int.inj h
              rw [List.length_map] at this
              omega
            have nd3 : (ps.map fun x : Nat => (x : Int)).Nodup := by
              refine nodup_of_len nde (fun x hx => (hes x).mp hx) ?_
              rw [List.length_map, h2]
            rw [List.Nodup, List.pairwise_map] at nd3
            exact nd3.imp fun h e => h (by rw [e])
          · have nd3 : (ps.map fun x : Nat => (x : Int)).Nodup := by
              rw [List.Nodup, List.pairwise_map]
              exact h.imp fun {a b} h e => h (by omega)
            have pm := (List.perm_ext_iff_of_nodup nde nd3).mpr hes
            rw [pm.length_eq, List.length_map, List.length_map]
        exact (congrArg (fun b => Q (.bl b) H1) e).mpr q
    | _ => exact iteT q
def sp_are_numbers (K : PySem.W.Frag) : Sp := fun vs H Q _ => ∃ (v : V) (d : PyData) (m : Int), vs = [v, .int m] ∧ Dp K H v d ∧ lenD d ∧ ∀ H', Same H H' → Q (.bl (areNumsD d m)) H'
theorem cal_are_numbers (A : At K mg "are_numbers" s_are_numbers) (B : Bi mg) (c_is_tuple : Cal P w K mg base 1 "is_tuple" (sp_is_tuple K)) (c_is_number : Cal P w K mg base 1 "is_number" (sp_is_number K)) : Cal P w K mg base 2 "are_numbers" (sp_are_numbers K) := by
  have nd := sc_are_numbers.nd
  refine A.cal sc_are_numbers (fun _ _ _ _ _ _ us hl => match us, hl with | [_, _], _ => rfl) ?_ fun f cdv A' outer s H vs Q E hr h => ⟨_, (pss_one (ps_ret (pe_and (pe_cal c_is_tuple hr (by first | decide | omega) (by rfl) passE (pa_cons (pv 0) (pa_cons (pv 1) pa_nil))) (pe_one (pe_callB (cr_all rfl) (by rfl) B.all (by decide +kernel) (pa_cons (pe_lc (own := [("one", 2)]) rfl nd (pi_tupK (K := K) rfl (pv 0)) (blkOk_by (own := [("one", 2)]) (N := N_are_numbers) (sc := defScope s_are_numbers) (by decide +kernel)) (fun _ _ _ _ _ => (pg_name (i := 2) nd rfl (.inl rfl) (.inr rfl))) (fun _ _ _ _ _ => pts_nil) (fun _ _ _ _ _ => (pe_cal c_is_number hr (by first | decide | omega) (by rfl) passL (pa_cons (pv 2) pa_nil)))) pa_nil)))))), ?_⟩
  · rintro vs H Q E ⟨v, d, m, rfl, _⟩
    rfl
  · obtain ⟨v, d, m, rfl, hd, hl, q⟩ := h
    refine ⟨_, rfl, _, rfl, v, d, m, rfl, hd, _, rfl, ifB (fun c => ?_) (fun c => ?_)⟩
    · cases hd with
      | tup hs ha =>
        rename_i a xs ds
        have lh := DpAll.len ha
        have lds := hl ds rfl
        refine ⟨_, rfl, a, rfl, ⟨_, hs⟩, fun D hD => ?_⟩
        refine comp_tupI (K := K) (us := xs) (fun i => some (isNumD (ds.getD i .none))) persPtB hD hs (sizeBig (by omega)) ?_ ?_
        · intro i x H1 Yes No hx s1 yes no
          obtain ⟨d, hd1, hd2⟩ := dpAt ha hx
          refine ⟨rfl, _, rfl, x, d, rfl, Dp.same s1 _ _ hd2, ?_⟩
          refine yes _ rfl _ _ (Same.refl _) ?_
          rw [List.getD_eq_getElem?_getD, hd1]
          rfl
        · intro H1 ys s1 hy pr
          rw [fm_some] at pr
          have e := pairedB_eq pr
          subst e
          refine ⟨D, _, rfl, SqL.of hy, ?_⟩
          have e : areNumsD (.tuple ds) m = ((List.range xs.length).map fun i => isNumD (ds.getD i .none)).all id := by
            show (isTupD (.tuple ds) m && (numsOf ds).isSome) = _
            rw [c, Bool.true_and, numsOf_isSome, lh, all_range]
          rw [← e]
          exact q _ s1
      | _ => cases c
    · have e : areNumsD d m = false := by
        cases d with
        | tuple ds =>
          show (isTupD (.tuple ds) m && (numsOf ds).isSome) = false
          rw [c]
          rfl
        | _ => rfl
      rw [← e]
      exact q _ (Same.refl H)
def sp_is_ring (K : PySem.W.Frag) : Sp := fun vs H Q _ => ∃ (nv v : V) (n : Nat) (ties : List (Nat × Nat)) (m : Addr) (rows : List Addr) (T : Tm) (d : PyData), vs = [nv, .ref m, v] ∧ Net H nv n ties ∧ Mat H m rows n T ∧ Dp K H v d ∧ lenD d ∧ ∀ H', Same H H' → Q (.bl (ringD n T d)) H'
theorem cal_is_ring (A : At K mg "is_ring" s_is_ring) (B : Bi mg) (c_are_points : Cal P w K mg base 3 "are_points" (sp_are_points K)) : Cal P w K mg base 4 "is_ring" (sp_is_ring K) := by
  have nd := sc_is_ring.nd
  refine A.cal sc_is_ring (fun _ _ _ _ _ _ us hl => match us, hl with | [_, _, _], _ => rfl) ?_ fun f cdv A' outer s H vs Q E hr h => ⟨_, (pss_cons (ps_if (PW.pt (pw_or (pt_not (pt_val (pe_cal c_are_points hr (by first | decide | omega) (by rfl) passE (pa_cons (pv 0) (pa_cons (pv 2) pa_nil))))) (pw_or1 (pt_cmpR op_lt (pe_callB (call_lenK (K := K) rfl) (by rfl) B.len (by decide +kernel) (pa_cons (pv 2) pa_nil)) pe_int (nomark _))))) (pss_one (ps_ret pe_bl)) pss_nil)
  (pss_one (ps_ret (pe_callB (cr_all rfl) (by rfl) B.all (by decide +kernel) (pa_cons (pe_lc (own := [("k", 3)]) rfl nd (pi_range1 (by rfl) B.range (pa_cons (pe_callB (call_lenK (K := K) rfl) (by rfl) B.len (by decide +kernel) (pa_cons (pv 2) pa_nil)) pa_nil)) (blkOk_by (own := [("k", 3)]) (N := N_is_ring) (sc := defScope s_is_ring) (by decide +kernel)) (fun _ _ _ _ _ => (pg_name (i := 3) nd rfl (.inl rfl) (.inr rfl))) (fun _ _ _ _ _ => pts_nil) (fun _ _ _ _ _ => (pe_ix (ix_listK (K := K) rfl) (pe_ix (ix_listK (K := K) rfl) (pv 1) (pe_ix (ix_tupK (K := K) rfl) (pv 2) (pe_op op_sub (pv 3) pe_int) (fun _ _ => rfl)) (fun _ _ => rfl)) (pe_ix (ix_tupK (K := K) rfl) (pv 2) (pv 3) (fun _ _ => rfl)) (fun _ _ => rfl)))) pa_nil))))), ?_⟩
  · rintro vs H Q E ⟨v, n, x, ties, m, rows, T, d, rfl, _⟩
    rfl
  · obtain ⟨nv, v, n, ties, m, rows, T, d, rfl, hN, hM, hd, hl, q⟩ := h
    refine ⟨_, rfl, _, rfl, nv, v, n, ties, d, rfl, hN, hd, hl, _, rfl, ifN (fun c => ?_) (fun c => ?_)⟩
    · have e : ringD n T d = false := by
        cases d with
        | tuple ds =>
          unfold arePtsD at c
          unfold ringD
          dsimp only at c ⊢
          cases h : ptsOf n ds with
          | none => rfl
          | some xs =>
            rw [h] at c
            dsimp only at c ⊢
            rw [c]
            rfl
        | _ => rfl
      rw [e] at q
      exact q _ (Same.refl H)
    · cases hd with
      | tup hs ha =>
        rename_i a us ds
        have lds := hl ds rfl
        unfold arePtsD at c
        unfold ringD at q
        dsimp only at c q
        cases h : ptsOf n ds with
        | none => rw [h] at c; cases c
        | some xs =>
          rw [h] at c q
          dsimp only at c q
          rw [c] at q
          obtain ⟨e1, e2⟩ := ptsOf_some h
          subst e1
          have ex := dps_pts ha
          subst ex
          rw [List.length_map] at lds
          refine ⟨_, rfl, _, _, rfl, .inr ⟨_, hs, rfl⟩, _, _, rfl, rfl, _, rfl, ifD (fun c2 => ?_) (fun c2 => ?_)⟩
          · rw [List.length_map] at c2
            rw [decide_eq_false (show ¬ 3 ≤ xs.length by omega)] at q
            exact q _ (Same.refl H)
          · rw [List.length_map] at c2
            rw [decide_eq_true (show 3 ≤ xs.length by omega)] at q
            refine ⟨_, rfl, _, _, rfl, .inr ⟨_, hs, rfl⟩, _, rfl, by rw [List.length_map]; omega, by rw [List.length_map]; omega, fun D hD => ?_⟩
            refine comp_range (lo := 0) (n := ((((xs.map pI).length : Nat) : Int)).toNat) (sizeBig (by rw [List.length_map]; omega)) (fun k => some (T (prv xs k) (xs.getD k 0))) persPtB hD ?_ ?_
            · intro k H1 Yes No hk s1 yes no
              rw [List.length_map] at hk
              have hk : k < xs.length := by omega
              refine ⟨rfl, ?_⟩
              have hs1 := sqT_same s1 hs
              refine rdMx (hM.same s1) rfl (e2 _ (prv_mem hk)) (e2 _ (getD_mem hk)) (fun Q h => ⟨_, rfl, _, rfl, _, _, rfl, rfl, _, _, _, _, rfl, rfl, hs1, ?_, h⟩) (fun Q h => ⟨_, rfl, _, rfl, _, _, _, _, rfl, rfl, hs1, ?_, h⟩) ?_
              · rw [Int.zero_add]
                exact atI_prev hk
              · rw [Int.zero_add]
                exact atI_getD hk
              · exact yes _ rfl _ _ (Same.refl _) rfl
            · intro H1 ys s1 hy pr
              rw [fm_some] at pr
              have e := pairedB_eq pr
              subst e
              refine ⟨D, _, rfl, SqL.of hy, ?_⟩
              have e : ((List.range ((((xs.map pI).length : Nat) : Int)).toNat).map fun k => T (prv xs k) (xs.getD k 0)).all id = ringB T xs := by
                rw [List.all_map, List.length_map, Int.toNat_natCast]
                rfl
              rw [e]
              exact q _ s1
      | _ => cases c
end
end Ns
/-! Own layer: sorted of a tuple of ints. -/
/-! Own layer In: lists of whole numbers as data. -/
/-! Own layer: company beside a rest, in plain Lean. -/
/-! Own layer: the nets of the laws of arrows. -/
namespace Ns
open PySem PySem.Spec PyProof.Rows L2
local macro_rules | `(tactic| walk_at "look") => `(tactic| first | assumption | exact upd_same | (refine (upd_ne (by first | assumption | exact Ne.symm (by assumption))).trans ?_; walk_at "look"))
local macro_rules | `(tactic| walk_at "cond") => `(tactic| first | assumption | omega | (dsimp only; omega) | exact ⟨by omega, by omega⟩ | decide | exact ⟨by decide, by decide, by decide⟩ | exact .inr ⟨by decide, by decide⟩ | exact .inl ⟨by decide, by decide⟩ | exact .inr ⟨by omega, by omega⟩ | exact .inl ⟨by omega, by omega⟩)
local macro_rules | `(tactic| walk_at "rd1") => `(tactic| first
  | refine ⟨_, rfl, ?_⟩
  | refine ⟨_, _, rfl, rfl, ?_⟩
  | refine ⟨rfl, ?_⟩
  | refine ⟨_, _, rfl, rfl, (by walk_at "cond"), ?_⟩
  | refine ⟨_, _, _, _, rfl, rfl, SqL.of (by walk_at "look"), rfl, ?_⟩
  | refine ⟨_, _, _, _, rfl, rfl, SqT.of (by walk_at "look"), rfl, ?_⟩
  | refine ⟨_, _, _, _, rfl, rfl, (by walk_at "look"), rfl, ?_⟩
  | refine .inl ⟨_, rfl, ?_⟩
  | refine ⟨.inl ⟨rfl, _, SqL.of (by walk_at "look")⟩, ?_⟩
  | refine ⟨_, _, rfl, ⟨by omega, by omega, by omega, by omega⟩, ?_⟩
  | refine ⟨_, rfl, (by omega), (by omega), ?_⟩
  | refine And.intro (by walk_at "cond") ?_)
local macro_rules | `(tactic| walk_at "rd") => `(tactic| repeat (walk_at "rd1"))
abbrev N_law_fixed : List Str := ["box", "menu"]
theorem sc_law_fixed : FnScope N_law_fixed ["box"] (defScope s_law_fixed) := ⟨rfl, rfl, rfl, by decide +kernel, rfl, by decide +kernel, by decide +kernel⟩
abbrev N_law_by : List Str := ["many", "tied", "a", "b"]
theorem sc_law_by : FnScope N_law_by ["many", "tied"] (defScope s_law_by) := ⟨rfl, rfl, rfl, by decide +kernel, rfl, by decide +kernel, by decide +kernel⟩
abbrev N_law_built : List Str := ["box", "sort", "many", "ends", "tied", "a", "b", "k"]
theorem sc_law_built : FnScope N_law_built ["box", "sort", "many"] (defScope s_law_built) := ⟨rfl, rfl, rfl, by decide +kernel, rfl, by decide +kernel, by decide +kernel⟩
abbrev N_law_net : List Str := ["box", "sort", "net", "many", "share", "tied", "a", "b", "turn", "k"]
theorem sc_law_net : FnScope N_law_net ["box"] (defScope s_law_net) := ⟨rfl, rfl, rfl, by decide +kernel, rfl, by decide +kernel, by decide +kernel⟩
/-! ### nets written out -/
abbrev NZ : Type := Int × List (Int × Int)
def pT (p : Int × Int) : TE := tTup (tCons (tC (.int p.1)) (tCons (tC (.int p.2)) tNil))
def pTs : List (Int × Int) → TA
  | [] => tNil
  | p :: r => tCons (pT p) (pTs r)
def nT (x : NZ) : TE := tTup (tCons (tC (.int x.1)) (tCons (tTup (pTs x.2)) tNil))
def nTs : List NZ → TA
  | [] => tNil
  | x :: r => tCons (nT x) (nTs r)
def pN (p : Int × Int) : Nat × Nat := (p.1.toNat, p.2.toNat)
theorem rdPTs {σ : L2.St} : ∀ {ps : List (Int × Int)} {H : Hp} {Q : List V → Hp → Prop}, (∀ p ∈ ps, 0 ≤ p.1 ∧ 0 ≤ p.2) → (∀ us H', Same H H' → Paired (Pr H') us (ps.map pN) → Q us H') → pTs ps σ H Q
  | [], H, Q, _, h => h [] H (Same.refl H) .nil
  | p :: r, H, Q, hz, h => by
    show pT p σ H fun x H1 => pTs r σ H1 fun xs H2 => Q (x :: xs) H2
    refine ⟨by show 2 ≤ sizeLine; decide, fun t ht => ?_⟩
    refine rdPTs (fun y hy => hz y (List.mem_cons_of_mem _ hy)) fun us H' sm pr => ?_
    obtain ⟨z1, z2⟩ := hz p (List.mem_cons_self ..)
    exact h _ _ ((same_laid ht).trans sm) (.cons (prMk (sm _ _ upd_same) (Int.toNat_of_nonneg z1).symm (Int.toNat_of_nonneg z2).symm) pr)
theorem rdNT {σ : L2.St} {x : NZ} {H : Hp} {Q : VK} (hl : x.2.length ≤ 1000) (h0 : 0 ≤ x.1) (hz : ∀ p ∈ x.2, 0 ≤ p.1 ∧ 0 ≤ p.2) (h : ∀ v H', Same H H' → Net H' v x.1.toNat (x.2.map pN) → Q v H') : nT x σ H Q := by
  show pTs x.2 σ H fun us H1 => us.length ≤ sizeLine ∧ ∀ p, H1 p = none → _
  refine rdPTs hz fun us H' sm pr => ⟨?_, fun t ht => ⟨by show 2 ≤ sizeLine; decide, fun t2 h2 => ?_⟩⟩
  · have := pr.length
    rw [List.length_map] at this
    exact Nat.le_of_lt (sizeBig (by omega))
  · refine h _ _ (sNew (sNew sm ht) h2) ⟨t2, .ref t, rfl, ?_, t, us, rfl, ?_, ?_⟩
    · rw [upd_same]
      unfold pI
      rw [Int.toNat_of_nonneg h0]
    · rw [upd_ne (ne_of_none upd_same h2)]
      exact upd_same
    · exact pMono persPr ((KeepT.new ht).trans (KeepT.new h2)) pr
abbrev okZ (x : NZ) : Prop := 0 ≤ x.1 ∧ x.2.length ≤ 1000 ∧ ∀ p ∈ x.2, 0 ≤ p.1 ∧ 0 ≤ p.2
theorem rdNTs {σ : L2.St} : ∀ {xs : List NZ} {H : Hp} {Q : List V → Hp → Prop}, (∀ x ∈ xs, okZ x) → (∀ us H', Same H H' → Paired (fun v (x : NZ) => Net H' v x.1.toNat (x.2.map pN)) us xs → Q us H') → nTs xs σ H Q
  | [], H, Q, _, h => h [] H (Same.refl H) .nil
  | x :: r, H, Q, hl, h => by
    show nT x σ H fun x H1 => nTs r σ H1 fun xs H2 => Q (x :: xs) H2
    obtain ⟨a, b, c⟩ := hl x (List.mem_cons_self ..)
    refine rdNT b a c fun v H1 s1 n1 => ?_
    refine rdNTs (fun y hy => hl y (List.mem_cons_of_mem _ hy)) fun us H' sm pr => ?_
    exact h _ _ (s1.trans sm) (.cons (n1.keep (sKt sm)) pr)
def fixedL : List NZ := [
  (5, [(0, 1), (0, 4), (1, 2), (2, 3), (3, 4)]),
  (7, [(0, 1), (0, 2), (0, 3), (1, 4), (2, 5), (3, 6)]),
  (6, [(0, 1), (0, 2), (0, 3), (1, 2), (1, 4), (2, 5)]),
  (4, [(0, 1), (0, 3), (1, 2), (2, 3)]),
  (6, [(0, 1), (0, 2), (0, 4), (0, 5), (1, 2), (1, 3), (1, 5), (2, 3), (2, 4)]),
  (4, [(0, 1), (0, 2), (0, 3)]),
  (7, [(0, 1), (0, 2), (1, 2), (1, 3), (2, 3), (2, 4), (3, 4), (3, 5), (4, 5), (4, 6), (5, 6)]),
  (0, []),
  (6, [(0, 1), (0, 5), (1, 2), (2, 3), (3, 4), (4, 5)]),
  (7, [(0, 1), (0, 6), (1, 2), (2, 3), (3, 4), (4, 5), (5, 6)])]
instance : DecidableRel ltP := fun p q => by unfold ltP; exact inferInstance
theorem fixedL_ok : ∀ x ∈ fixedL, okZ x ∧ x.1.toNat ≤ 10 ∧ (∀ p ∈ x.2.map pN, p.1 < p.2 ∧ p.2 < x.1.toNat) ∧ (x.2.map pN).Pairwise ltP := by decide +kernel
section
variable {P : Program} {w : World} {K : PySem.W.Frag} {mg : Str → Option Value} {base : Heap}
def sp_by : Sp := fun vs H Q _ => ∃ (n : Nat) (D : Addr) (rows : List Addr) (f : Tm), vs = [pI n, .ref D] ∧ n ≤ 1000 ∧ Mat H D rows n f ∧ ∀ (v : V) (H' : Hp), Same H H' → Net H' v n ((allPairs n).filter fun p => f p.1 p.2) → Q v H'
theorem cal_by (A : At K mg "_law_by" s_law_by) (B : Bi mg) (c_law_pairs : Cal P w K mg base 1 "_law_pairs" sp_pairs) : Cal P w K mg base 2 "_law_by" sp_by := by
  have nd := sc_law_by.nd
  refine A.cal sc_law_by (fun _ _ _ _ _ _ us hl => match us, hl with | [_, _], _ => rfl) ?_ fun f cdv A' outer s H vs Q E hr h => ⟨_, (pss_one (ps_ret (pe_tup (pa_cons (pv 0) (pa_cons (pe_callTy (call_tuple_ofK (K := K) rfl) (by rfl) B.tuple (by decide +kernel) (pa_cons (pe_lc (own := [("a", 2), ("b", 3)]) rfl nd (pi_listK (K := K) rfl (pe_cal c_law_pairs hr (by first | decide | omega) (by rfl) passE (pa_cons (pv 0) pa_nil))) (blkOk_by (own := [("a", 2), ("b", 3)]) (N := N_law_by) (sc := defScope s_law_by) (by decide +kernel)) (fun _ _ _ _ _ => (pg_tupK (K := K) (n := 2) rfl rfl (pgs_cons (pg_name (i := 2) nd rfl (.inl rfl) (.inr rfl)) (pgs_cons (pg_name (i := 3) nd rfl (.inl rfl) (.inr rfl)) pgs_nil)))) (fun _ _ _ _ _ => (pts_one (pt_val (pe_ix (ix_listK (K := K) rfl) (pe_ix (ix_listK (K := K) rfl) (pv 1) (pv 2) (fun _ _ => rfl)) (pv 3) (fun _ _ => rfl))))) (fun _ _ _ _ _ => (pe_tup (pa_cons (pv 2) (pa_cons (pv 3) pa_nil))))) pa_nil)) pa_nil))))), ?_⟩
  · rintro vs H Q E ⟨n, d, rows, f, rfl, _⟩
    rfl
  · obtain ⟨n, d, rows, f, rfl, hn, hM, q⟩ := h
    walk_at "rd"
    intro p us H1 sm np hu pr
    refine ⟨p, rfl, ⟨_, SqL.of hu⟩, fun Dc hDc => ?_⟩
    have len1 := pr.length
    have len2 := allPairs_len n
    have len3 : n * n ≤ 1000 * 1000 := Nat.mul_le_mul hn hn
    refine comp_list persPr (fun x => if f x.1 x.2 then some x else none) persPr hDc (SqL.of hu) (sizeBig (by omega)) pr ?_ ?_
    · rintro x v H2 Yes No hx ⟨t, rfl, ht⟩ sm2 yes no
      have hxp := mem_allPairs.mp hx
      refine ⟨t, _, rfl, SqT.of ht, rfl, _, _, rfl, _, _, rfl, rfl, rfl, ?_⟩
      refine rdM (hM.same (sm.trans sm2)) rfl rfl rfl (by omega) hxp.2 ⟨_, rfl, ifB (fun c => ?_) (fun c => ?_)⟩
      · walk_at "rd"
        refine ⟨by show 2 ≤ sizeLine; decide, fun t1 h1 => ?_⟩
        exact yes x (by rw [c]; rfl) _ _ (same_laid h1) ⟨t1, rfl, upd_same⟩
      · exact no (by rw [c]; rfl) _ (Same.refl _)
    · intro H2 ys sm2 hy pr2
      have e : (allPairs n).filterMap (fun x => if f x.1 x.2 then some x else none) = (allPairs n).filter fun p => f p.1 p.2 := by
        rw [← List.filterMap_eq_filter]
        rfl
      rw [e] at pr2
      refine ⟨_, _, rfl, .inl ⟨SqL.of hy, fun t ht => ?_⟩⟩
      refine ⟨by show 2 ≤ sizeLine; decide, fun t2 h2 => ?_⟩
      refine q _ _ (sNew (sNew (sm.trans sm2) ht) h2) ⟨t2, .ref t, rfl, upd_same, t, ys, rfl, ?_, ?_⟩
      · rw [upd_ne (ne_of_none upd_same h2)]
        exact upd_same
      · exact pMono persPr ((KeepT.new ht).trans (KeepT.new h2)) pr2
def sp_fixed : Sp := fun vs H Q _ => ∃ (b l : Addr), vs = [.ref b] ∧ Box H b l ∧ ∀ (v : V) (n : Nat) (ties : List (Nat × Nat)) (H' : Hp), n ≤ 10 → Good n ties → Net H' v n ties → Kp b l H H' → Q v H'
theorem cal_fixed (A : At K mg "_law_fixed" s_law_fixed) (B : Bi mg) (c_law_pick : Cal P w K mg base 2 "_law_pick" (sp_pick K)) : Cal P w K mg base 3 "_law_fixed" sp_fixed := by
  have nd := sc_law_fixed.nd
  refine A.cal sc_law_fixed (fun _ _ _ _ _ _ us hl => match us, hl with | [_], _ => rfl) ?_ fun f cdv A' outer s H vs Q E hr h => ⟨_, (pss_cons (ps_set (i := 1) nd rfl (.inl rfl) (pe_lst (pa_cons (pe_tup (pa_cons pe_int (pa_cons (pe_tup (pa_cons (pe_tup (pa_cons pe_int (pa_cons pe_int pa_nil))) (pa_cons (pe_tup (pa_cons pe_int (pa_cons pe_int pa_nil))) (pa_cons (pe_tup (pa_cons pe_int (pa_cons pe_int pa_nil))) (pa_cons (pe_tup (pa_cons pe_int (pa_cons pe_int pa_nil))) (pa_cons (pe_tup (pa_cons pe_int (pa_cons pe_int pa_nil))) pa_nil)))))) pa_nil))) (pa_cons (pe_tup (pa_cons pe_int (pa_cons (pe_tup (pa_cons (pe_tup (pa_cons pe_int (pa_cons pe_int pa_nil))) (pa_cons (pe_tup (pa_cons pe_int (pa_cons pe_int pa_nil))) (pa_cons (pe_tup (pa_cons pe_int (pa_cons pe_int pa_nil))) (pa_cons (pe_tup (pa_cons pe_int (pa_cons pe_int pa_nil))) (pa_cons (pe_tup (pa_cons pe_int (pa_cons pe_int pa_nil))) (pa_cons (pe_tup (pa_cons pe_int (pa_cons pe_int pa_nil))) pa_nil))))))) pa_nil))) (pa_cons (pe_tup (pa_cons pe_int (pa_cons (pe_tup (pa_cons (pe_tup (pa_cons pe_int (pa_cons pe_int pa_nil))) (pa_cons (pe_tup (pa_cons pe_int (pa_cons pe_int pa_nil))) (pa_cons (pe_tup (pa_cons pe_int (pa_cons pe_int pa_nil))) (pa_cons (pe_tup (pa_cons pe_int (pa_cons pe_int pa_nil))) (pa_cons (pe_tup (pa_cons pe_int (pa_cons pe_int pa_nil))) (pa_cons (pe_tup (pa_cons pe_int (pa_cons pe_int pa_nil))) pa_nil))))))) pa_nil))) (pa_cons (pe_tup (pa_cons pe_int (pa_cons (pe_tup (pa_cons (pe_tup (pa_cons pe_int (pa_cons pe_int pa_nil))) (pa_cons (pe_tup (pa_cons pe_int (pa_cons pe_int pa_nil))) (pa_cons (pe_tup (pa_cons pe_int (pa_cons pe_int pa_nil))) (pa_cons (pe_tup (pa_cons pe_int (pa_cons pe_int pa_nil))) pa_nil))))) pa_nil))) (pa_cons (pe_tup (pa_cons pe_int (pa_cons (pe_tup (pa_cons (pe_tup (pa_cons pe_int (pa_cons pe_int pa_nil))) (pa_cons (pe_tup (pa_cons pe_int (pa_cons pe_int pa_nil))) (pa_cons (pe_tup (pa_cons pe_int (pa_cons pe_int pa_nil))) (pa_cons (pe_tup (pa_cons pe_int (pa_cons pe_int pa_nil))) (pa_cons (pe_tup (pa_cons pe_int (pa_cons pe_int pa_nil))) (pa_cons (pe_tup (pa_cons pe_int (pa_cons pe_int pa_nil))) (pa_cons (pe_tup (pa_cons pe_int (pa_cons pe_int pa_nil))) (pa_cons (pe_tup (pa_cons pe_int (pa_cons pe_int pa_nil))) (pa_cons (pe_tup (pa_cons pe_int (pa_cons pe_int pa_nil))) pa_nil)))))))))) pa_nil))) (pa_cons (pe_tup (pa_cons pe_int (pa_cons (pe_tup (pa_cons (pe_tup (pa_cons pe_int (pa_cons pe_int pa_nil))) (pa_cons (pe_tup (pa_cons pe_int (pa_cons pe_int pa_nil))) (pa_cons (pe_tup (pa_cons pe_int (pa_cons pe_int pa_nil))) pa_nil)))) pa_nil))) (pa_cons (pe_tup (pa_cons pe_int (pa_cons (pe_tup (pa_cons (pe_tup (pa_cons pe_int (pa_cons pe_int pa_nil))) (pa_cons (pe_tup (pa_cons pe_int (pa_cons pe_int pa_nil))) (pa_cons (pe_tup (pa_cons pe_int (pa_cons pe_int pa_nil))) (pa_cons (pe_tup (pa_cons pe_int (pa_cons pe_int pa_nil))) (pa_cons (pe_tup (pa_cons pe_int (pa_cons pe_int pa_nil))) (pa_cons (pe_tup (pa_cons pe_int (pa_cons pe_int pa_nil))) (pa_cons (pe_tup (pa_cons pe_int (pa_cons pe_int pa_nil))) (pa_cons (pe_tup (pa_cons pe_int (pa_cons pe_int pa_nil))) (pa_cons (pe_tup (pa_cons pe_int (pa_cons pe_int pa_nil))) (pa_cons (pe_tup (pa_cons pe_int (pa_cons pe_int pa_nil))) (pa_cons (pe_tup (pa_cons pe_int (pa_cons pe_int pa_nil))) pa_nil)))))))))))) pa_nil))) (pa_cons (pe_tup (pa_cons pe_int (pa_cons (pe_tup pa_nil) pa_nil))) (pa_cons (pe_tup (pa_cons pe_int (pa_cons (pe_tup (pa_cons (pe_tup (pa_cons pe_int (pa_cons pe_int pa_nil))) (pa_cons (pe_tup (pa_cons pe_int (pa_cons pe_int pa_nil))) (pa_cons (pe_tup (pa_cons pe_int (pa_cons pe_int pa_nil))) (pa_cons (pe_tup (pa_cons pe_int (pa_cons pe_int pa_nil))) (pa_cons (pe_tup (pa_cons pe_int (pa_cons pe_int pa_nil))) (pa_cons (pe_tup (pa_cons pe_int (pa_cons pe_int pa_nil))) pa_nil))))))) pa_nil))) (pa_cons (pe_tup (pa_cons pe_int (pa_cons (pe_tup (pa_cons (pe_tup (pa_cons pe_int (pa_cons pe_int pa_nil))) (pa_cons (pe_tup (pa_cons pe_int (pa_cons pe_int pa_nil))) (pa_cons (pe_tup (pa_cons pe_int (pa_cons pe_int pa_nil))) (pa_cons (pe_tup (pa_cons pe_int (pa_cons pe_int pa_nil))) (pa_cons (pe_tup (pa_cons pe_int (pa_cons pe_int pa_nil))) (pa_cons (pe_tup (pa_cons pe_int (pa_cons pe_int pa_nil))) (pa_cons (pe_tup (pa_cons pe_int (pa_cons pe_int pa_nil))) pa_nil)))))))) pa_nil))) pa_nil))))))))))))
  (pss_one (ps_ret (pe_cal c_law_pick hr (by first | decide | omega) (by rfl) passE (pa_cons (pv 0) (pa_cons (pv 1) pa_nil)))))), ?_⟩
  · rintro vs H Q E ⟨b, l, rfl, _⟩
    rfl
  · obtain ⟨b, l, rfl, hb, q⟩ := h
    unfold tSeq tAsg tLst
    change nTs fixedL _ _ _
    refine rdNTs (xs := fixedL) (fun x hx => (fixedL_ok x hx).1) fun us H1 sm pr => ?_
    have hl : us.length = 10 := pr.length
    refine ⟨by rw [hl]; show 10 ≤ sizeLine; decide, fun p hp => ?_⟩
    have k1 : Kp b l H (upd H1 p (.lst us)) := (Kp.refl hb).then (sNew sm hp)
    refine ⟨_, rfl, _, rfl, b, l, p, us, rfl, k1.box, .inl ⟨upd_same, box_ne (hb.same sm) hp⟩, fun e => (by rw [e] at hl; cases hl), (by rw [hl]; decide), fun v H2 hv k2 => ?_⟩
    obtain ⟨x, hx, hN⟩ := pMemL pr hv
    obtain ⟨_, o1, o2, o3⟩ := fixedL_ok x hx
    exact q v _ _ H2 o1 ⟨o2, o3⟩ (hN.keep ((KeepT.new hp).trans (k2.kt k1.box))) (k1.trans k2)
/-- list of pairs of small numbers: a[x][0], a[x][1] by names -/
theorem rdE0 {H : Hp} {D : Addr} {zs : List V} {es : List (Int × Int)} {e : Int × Int} {σ : L2.St} {Q : VK} {i j x : Nat} (hz : H D = some (.lst zs)) (pz : Paired (PrZ H) zs es) (hi : σ[i]? = some (some (.ref D))) (hj : σ[j]? = some (some (.int (x : Int)))) (hx : es[x]? = some e) (q : Q (.int e.1) H) :
    tOp (rIxT K) (tOp (rIxL K) (tVar i) (tVar j)) (tC (.int 0)) σ H Q := by
  obtain ⟨v, hv, t, rfl, ht⟩ := pAt pz hx
  exact ⟨_, hi, _, hj, _, _, _, _, rfl, rfl, SqL.of hz, atI_nat hv, _, _, _, _, rfl, rfl, SqT.of ht, rfl, q⟩
theorem rdE1 {H : Hp} {D : Addr} {zs : List V} {es : List (Int × Int)} {e : Int × Int} {σ : L2.St} {Q : VK} {i j x : Nat} (hz : H D = some (.lst zs)) (pz : Paired (PrZ H) zs es) (hi : σ[i]? = some (some (.ref D))) (hj : σ[j]? = some (some (.int (x : Int)))) (hx : es[x]? = some e) (q : Q (.int e.2) H) :
    tOp (rIxT K) (tOp (rIxL K) (tVar i) (tVar j)) (tC (.int 1)) σ H Q := by
  obtain ⟨v, hv, t, rfl, ht⟩ := pAt pz hx
  exact ⟨_, hi, _, hj, _, _, _, _, rfl, rfl, SqL.of hz, atI_nat hv, _, _, _, _, rfl, rfl, SqT.of ht, rfl, q⟩
def sp_built : Sp := fun vs H Q _ => ∃ (b l : Addr) (so : Int) (n : Nat), vs = [.ref b, .int so, pI n] ∧ n ≤ 1000 ∧ Box H b l ∧ ∀ (v : V) (ties : List (Nat × Nat)) (H' : Hp), Good n ties → Net H' v n ties → Kp b l H H' → Q v H'
theorem cal_built (A : At K mg "_law_built" s_law_built) (B : Bi mg) (c_law_take : Cal P w K mg base 1 "_law_take" sp_take) (c_law_pairs : Cal P w K mg base 1 "_law_pairs" sp_pairs) (c_law_by : Cal P w K mg base 2 "_law_by" sp_by) : Cal P w K mg base 3 "_law_built" sp_built := by
  have nd := sc_law_built.nd
  refine A.cal sc_law_built (fun _ _ _ _ _ _ us hl => match us, hl with | [_, _, _], _ => rfl) ?_ fun f cdv A' outer s H vs Q E hr h => ⟨_, (pss_cons (ps_setLc (i := 3) (own := [("k", 7)]) rfl nd rfl rfl (sw_true rfl rfl rfl (by decide +kernel)) (pi_range1 (by rfl) B.range (pa_cons (pv 2) pa_nil)) (blkOk_by (own := [("k", 7)]) (N := N_law_built) (sc := defScope s_law_built) (by decide +kernel)) (fun _ _ _ _ _ => (pg_name (i := 7) nd rfl (.inl rfl) (.inr rfl))) (fun _ _ _ _ _ => pts_nil) (fun _ _ _ _ _ => (pe_tup (pa_cons (pe_cal c_law_take hr (by first | decide | omega) (by rfl) passL (pa_cons (pv 0) (pa_cons pe_int pa_nil))) (pa_cons (pe_cal c_law_take hr (by first | decide | omega) (by rfl) passL (pa_cons (pv 0) (pa_cons pe_int pa_nil))) pa_nil)))))
  (pss_cons (ps_setLc (i := 4) (own := [("k", 7)]) rfl nd rfl rfl (sw_true rfl rfl rfl (by decide +kernel)) (pi_range1 (by rfl) B.range (pa_cons (pv 2) pa_nil)) (blkOk_by (own := [("k", 7)]) (N := N_law_built) (sc := defScope s_law_built) (by decide +kernel)) (fun _ _ _ _ _ => (pg_name (i := 7) nd rfl (.inl rfl) (.inr rfl))) (fun _ _ _ _ _ => pts_nil) (fun _ _ _ _ _ => (pe_op op_rep (pe_lst (pa_cons pe_bl pa_nil)) (pv 2))))
  (pss_cons (ps_for passOwn rfl (pi_listK (K := K) rfl (pe_cal c_law_pairs hr (by first | decide | omega) (by rfl) passE (pa_cons (pv 2) pa_nil))) (pg_tupK (K := K) (n := 2) rfl rfl (pgs_cons (pg_name (i := 5) nd rfl (.inl rfl)) (pgs_cons (pg_name (i := 6) nd rfl (.inl rfl)) pgs_nil))) (pss_one (ps_if (pt_cmpR op_eq (pv 1) pe_int (nomark _)) (pss_one (ps_asg (pe_and (pe_cmpR op_le (pe_ix (ix_tupK (K := K) rfl) (pe_ix (ix_listK (K := K) rfl) (pv 3) (pv 5) (fun _ _ => rfl)) pe_int (fun _ _ => rfl)) (pe_op op_add (pe_ix (ix_tupK (K := K) rfl) (pe_ix (ix_listK (K := K) rfl) (pv 3) (pv 6) (fun _ _ => rfl)) pe_int (fun _ _ => rfl)) (pe_ix (ix_tupK (K := K) rfl) (pe_ix (ix_listK (K := K) rfl) (pv 3) (pv 6) (fun _ _ => rfl)) pe_int (fun _ _ => rfl))) (nomark _)) (pe_one (pe_cmpR op_le (pe_ix (ix_tupK (K := K) rfl) (pe_ix (ix_listK (K := K) rfl) (pv 3) (pv 6) (fun _ _ => rfl)) pe_int (fun _ _ => rfl)) (pe_op op_add (pe_ix (ix_tupK (K := K) rfl) (pe_ix (ix_listK (K := K) rfl) (pv 3) (pv 5) (fun _ _ => rfl)) pe_int (fun _ _ => rfl)) (pe_ix (ix_tupK (K := K) rfl) (pe_ix (ix_listK (K := K) rfl) (pv 3) (pv 5) (fun _ _ => rfl)) pe_int (fun _ _ => rfl))) (nomark _)))) (pg_sub (pe_ix (ix_listK (K := K) rfl) (pv 4) (pv 5) (fun _ _ => rfl)) (pv 6) set_list))) (pss_one (ps_if (pt_cmpR op_eq (pv 1) pe_int (nomark _)) (pss_one (ps_asg (pe_chain op_le op_le (pe_un un_neg pe_int) (pe_op op_sub (pe_ix (ix_tupK (K := K) rfl) (pe_ix (ix_listK (K := K) rfl) (pv 3) (pv 5) (fun _ _ => rfl)) pe_int (fun _ _ => rfl)) (pe_ix (ix_tupK (K := K) rfl) (pe_ix (ix_listK (K := K) rfl) (pv 3) (pv 6) (fun _ _ => rfl)) pe_int (fun _ _ => rfl))) pe_int) (pg_sub (pe_ix (ix_listK (K := K) rfl) (pv 4) (pv 5) (fun _ _ => rfl)) (pv 6) set_list))) (pss_one (ps_if (pt_cmpR op_eq (pv 1) pe_int (nomark _)) (pss_one (ps_asg (pe_cmpR op_lt (pe_op op_mul (pe_op op_sub (pe_ix (ix_tupK (K := K) rfl) (pe_ix (ix_listK (K := K) rfl) (pv 3) (pv 5) (fun _ _ => rfl)) pe_int (fun _ _ => rfl)) (pe_ix (ix_tupK (K := K) rfl) (pe_ix (ix_listK (K := K) rfl) (pv 3) (pv 6) (fun _ _ => rfl)) pe_int (fun _ _ => rfl))) (pe_op op_sub (pe_ix (ix_tupK (K := K) rfl) (pe_ix (ix_listK (K := K) rfl) (pv 3) (pv 5) (fun _ _ => rfl)) pe_int (fun _ _ => rfl)) (pe_ix (ix_tupK (K := K) rfl) (pe_ix (ix_listK (K := K) rfl) (pv 3) (pv 6) (fun _ _ => rfl)) pe_int (fun _ _ => rfl)))) pe_int (nomark _)) (pg_sub (pe_ix (ix_listK (K := K) rfl) (pv 4) (pv 5) (fun _ _ => rfl)) (pv 6) set_list))) (pss_one (ps_if (pt_cmpR op_eq (pv 1) pe_int (nomark _)) (pss_one (ps_asg (pe_cmpR (op_in_seqK (K := K) rfl) (pe_op op_or (pe_ix (ix_tupK (K := K) rfl) (pe_ix (ix_listK (K := K) rfl) (pv 3) (pv 5) (fun _ _ => rfl)) pe_int (fun _ _ => rfl)) (pe_ix (ix_tupK (K := K) rfl) (pe_ix (ix_listK (K := K) rfl) (pv 3) (pv 6) (fun _ _ => rfl)) pe_int (fun _ _ => rfl))) (pe_tup (pa_cons (pe_ix (ix_tupK (K := K) rfl) (pe_ix (ix_listK (K := K) rfl) (pv 3) (pv 5) (fun _ _ => rfl)) pe_int (fun _ _ => rfl)) (pa_cons (pe_ix (ix_tupK (K := K) rfl) (pe_ix (ix_listK (K := K) rfl) (pv 3) (pv 6) (fun _ _ => rfl)) pe_int (fun _ _ => rfl)) pa_nil))) rfl) (pg_sub (pe_ix (ix_listK (K := K) rfl) (pv 4) (pv 5) (fun _ _ => rfl)) (pv 6) set_list))) (pss_one (ps_asg (pe_and (pe_cmpR op_ne (pe_op op_mod (pe_ix (ix_tupK (K := K) rfl) (pe_ix (ix_listK (K := K) rfl) (pv 3) (pv 5) (fun _ _ => rfl)) pe_int (fun _ _ => rfl)) pe_int) (pe_op op_mod (pe_ix (ix_tupK (K := K) rfl) (pe_ix (ix_listK (K := K) rfl) (pv 3) (pv 6) (fun _ _ => rfl)) pe_int (fun _ _ => rfl)) pe_int) (nomark _)) (pe_one (pe_cmpR op_lt (pe_op op_add (pe_ix (ix_tupK (K := K) rfl) (pe_ix (ix_listK (K := K) rfl) (pv 3) (pv 5) (fun _ _ => rfl)) pe_int (fun _ _ => rfl)) (pe_ix (ix_tupK (K := K) rfl) (pe_ix (ix_listK (K := K) rfl) (pv 3) (pv 6) (fun _ _ => rfl)) pe_int (fun _ _ => rfl))) pe_int (nomark _)))) (pg_sub (pe_ix (ix_listK (K := K) rfl) (pv 4) (pv 5) (fun _ _ => rfl)) (pv 6) set_list))))))))))))
  (pss_one (ps_ret (pe_cal c_law_by hr (by first | decide | omega) (by rfl) passE (pa_cons (pv 2) (pa_cons (pv 4) pa_nil)))))))), ?_⟩
  · rintro vs H Q E ⟨b, l, so, n, rfl, _⟩
    rfl
  · obtain ⟨b, l, so, n, rfl, hn, hb, q⟩ := h
    refine ⟨_, rfl, _, rfl, by omega, by omega, fun D hD => ?_⟩
    have hDb : D ≠ b := box_ne hb hD
    refine lc_range (lo := 0) (n := n) (fun i H4 => Kp b l H H4 ∧ ∃ (zs : List V) (es : List (Int × Int)), H4 D = some (.lst zs) ∧ Paired (PrZ H4) zs es ∧ es.length = i ∧ ∀ e ∈ es, (0 ≤ e.1 ∧ e.1 < 12) ∧ 0 ≤ e.2 ∧ e.2 < 6)
      ⟨(Kp.refl hb).new hD, [], [], upd_same, .nil, rfl, fun e h => nomatch h⟩ ?_ ?_
    · rintro i H4 hi ⟨k4, zs, es, hz, pz, lz, bz⟩
      refine ⟨rfl, _, rfl, b, l, _, rfl, k4.box, by decide, by decide, fun z0 H5 a0 a1 k5 => ?_⟩
      refine ⟨_, rfl, b, l, _, rfl, k5.box, by decide, by decide, fun z1 H6 b0 b1 k6 => ?_⟩
      refine ⟨by show 2 ≤ sizeLine; decide, fun t ht => ?_⟩
      have k46 := k5.trans k6
      have hz6 : (upd H6 t (.tup [.int z0, .int z1])) D = some (.lst zs) := by
        rw [upd_ne (ne_of_none (k46.same _ _ hz hDb) ht)]
        exact k46.same _ _ hz hDb
      have lzs := pz.length
      refine ⟨zs, hz6, by rw [lzs]; exact sizeBig (by omega), ((k4.trans k46).new ht).put hb hD, zs ++ [.ref t], es ++ [(z0, z1)], upd_same, ?_, by simp [lz], ?_⟩
      · have kt : KeepT H4 (upd (upd H6 t (.tup [.int z0, .int z1])) D (.lst (zs ++ [.ref t]))) := ((k46.kt k4.box).trans (KeepT.new ht)).trans (KeepT.lst hz6)
        refine pApp (pMono persPrZ kt pz) (.cons ⟨t, rfl, ?_⟩ .nil)
        rw [upd_ne (fun e => by rw [e, upd_same] at hz6; cases hz6)]
        exact upd_same
      · intro e he
        rcases List.mem_append.mp he with he | he
        · exact bz e he
        · rw [List.mem_singleton.mp he]
          exact ⟨⟨a0, a1⟩, b0, b1⟩
    · rintro H4 ⟨k4, zs, es, hz, pz, lz, bz⟩
      refine ⟨_, rfl, _, rfl, by omega, by omega, fun D2 hD2 => ?_⟩
      refine comp_rows (lo := 0) (n := (n : Int).toNat) (sizeBig (by omega)) (fun _ => rowV n fun _ => false) hD2 ?_ ?_
      · intro i H5 Yes No hi sm2 yes
        refine ⟨rfl, by show 1 ≤ sizeLine; decide, fun p hp => ?_⟩
        refine ⟨_, rfl, p, n, _, rfl, rfl, upd_same, by omega, by omega, ?_, fun a ha => ?_⟩
        · show 1 * (n : Int).toNat ≤ _
          exact Nat.le_of_lt (sizeBig (by omega))
        · refine yes a _ (sNew (same_laid hp) ha) ?_ ?_
          · by_cases e : a = p
            · rw [e]
              exact hp
            · rw [upd_ne e] at ha
              exact ha
          · rw [upd_same, show ((n : Int)).toNat = n from Int.toNat_natCast n, rep_rowV]
      · intro H5 rows sm5 hy rw
        rw [show ((n : Int)).toNat = n from Int.toNat_natCast n] at rw
        have M0 : Mat H5 D2 rows n (tieT []) := (rows_mat (f := fun _ _ => false) hy rw).congr fun i j _ _ => rfl
        have hnew := rw.new
        refine ⟨_, rfl, n, rfl, hn, fun pp ps H6 sm6 np hps prs => ?_⟩
        have M6 := M0.same sm6
        have hpp : pp ∉ rows := fun hm => by
          obtain ⟨j, hj⟩ := List.getElem?_of_mem hm
          rw [M0.at_ j pp hj] at np
          cases np
        refine ⟨pp, rfl, ⟨_, SqL.of hps⟩, for_list (K := K) (a := pp) (xs := ps) (fun i σ H7 => ∃ v5 v6, σ = [some (.ref b), some (.int so), some (pI n), some (.ref D), some (.ref D2), v5, v6, none] ∧ Out rows H6 H7 ∧ ∃ T, Mat H7 D2 rows n T)
          ⟨_, _, rfl, Out.refl _ _, _, M6⟩ (fun i σ H7 _ ⟨_, _, _, o, _⟩ => SqL.of (o _ _ hps hpp)) ?_ ?_⟩
        · rintro i v σ H7 hv ⟨v5, v6, rfl, o7, T, M7⟩
          obtain ⟨x, hx, hxr⟩ := pAtL prs hv
          obtain ⟨t, rfl, ht⟩ := persPr _ _ _ _ (o7.kt M6) hxr
          have hxp := mem_allPairs.mp (List.mem_of_getElem? hx)
          have s47 : Same H4 H7 := Out.same (sm5.trans sm6) hnew o7
          have hz7 := s47 _ _ hz
          have pz7 := pMono persPrZ (sKt s47) pz
          obtain ⟨e1, h1⟩ : ∃ e, es[x.1]? = some e := ⟨_, List.getElem?_eq_getElem (by omega)⟩
          obtain ⟨e2, h2⟩ : ∃ e, es[x.2]? = some e := ⟨_, List.getElem?_eq_getElem (by omega)⟩
          have b1 := bz e1 (List.mem_of_getElem? h1)
          have b2 := bz e2 (List.mem_of_getElem? h2)
          refine ⟨t, _, rfl, SqT.of ht, rfl, _, _, rfl, _, _, rfl, rfl, ?_⟩
          refine ⟨_, rfl, rfl, _, rfl, ifI (fun c => ?_) (fun c => ?_)⟩
          · refine rdE0 hz7 pz7 rfl rfl h1 (rdE0 hz7 pz7 rfl rfl h2 (rdE1 hz7 pz7 rfl rfl h2 ⟨_, _, rfl, rfl, _, _, rfl, rfl, _, rfl, ifD (fun c2 => ?_) (fun c2 => ?_)⟩))
            · refine rdE0 hz7 pz7 rfl rfl h2 (rdE0 hz7 pz7 rfl rfl h1 (rdE1 hz7 pz7 rfl rfl h1 ⟨_, _, rfl, rfl, _, _, rfl, rfl, ?_⟩))
              exact wrM M7 rfl rfl rfl (by omega) hxp.2 fun H8 M8 o8 _ => ⟨_, _, rfl, o7.trans o8, _, M8⟩
            · exact wrM M7 rfl rfl rfl (by omega) hxp.2 fun H8 M8 o8 _ => ⟨_, _, rfl, o7.trans o8, _, M8⟩
          refine ⟨_, rfl, rfl, _, rfl, ifI (fun c => ?_) (fun c => ?_)⟩
          · refine ⟨_, rfl, rdE0 hz7 pz7 rfl rfl h1 (rdE0 hz7 pz7 rfl rfl h2 ⟨_, _, rfl, rfl, _, _, rfl, rfl, _, rfl, ifD (fun c2 => ?_) (fun c2 => ?_)⟩)⟩
            · refine ⟨_, _, rfl, rfl, ?_⟩
              exact wrM M7 rfl rfl rfl (by omega) hxp.2 fun H8 M8 o8 _ => ⟨_, _, rfl, o7.trans o8, _, M8⟩
            · exact wrM M7 rfl rfl rfl (by omega) hxp.2 fun H8 M8 o8 _ => ⟨_, _, rfl, o7.trans o8, _, M8⟩
          refine ⟨_, rfl, rfl, _, rfl, ifI (fun c => ?_) (fun c => ?_)⟩
          · refine rdE0 hz7 pz7 rfl rfl h1 (rdE0 hz7 pz7 rfl rfl h2 ⟨_, _, rfl, rfl, rdE1 hz7 pz7 rfl rfl h1 (rdE1 hz7 pz7 rfl rfl h2 ⟨_, _, rfl, rfl, _, _, rfl, rfl, ?_, _, _, rfl, rfl, ?_⟩)⟩)
            · exact .inl ⟨by omega, by omega⟩
            · exact wrM M7 rfl rfl rfl (by omega) hxp.2 fun H8 M8 o8 _ => ⟨_, _, rfl, o7.trans o8, _, M8⟩
          refine ⟨_, rfl, rfl, _, rfl, ifI (fun c => ?_) (fun c => ?_)⟩
          · refine rdE0 hz7 pz7 rfl rfl h1 (rdE0 hz7 pz7 rfl rfl h2 ⟨_, _, rfl, rfl, rdE0 hz7 pz7 rfl rfl h1 (rdE0 hz7 pz7 rfl rfl h2 ⟨by show 2 ≤ sizeLine; decide, fun t2 ht2 => ⟨_, _, rfl, .inr (SqT.of upd_same), rfl, rfl, ?_⟩⟩)⟩)
            refine wrM (M7.same (same_laid ht2)) rfl rfl rfl (by omega) hxp.2 fun H8 M8 o8 _ => ⟨_, _, rfl, (o7.trans (Out.of (same_laid ht2))).trans o8, _, M8⟩
          · refine rdE0 hz7 pz7 rfl rfl h1 ⟨_, _, rfl, rfl, by show (0 : Int) < 2; decide, rdE0 hz7 pz7 rfl rfl h2 ⟨_, _, rfl, rfl, by show (0 : Int) < 2; decide, rfl, _, rfl, ifB (fun c2 => ?_) (fun c2 => ?_)⟩⟩
            · refine rdE1 hz7 pz7 rfl rfl h1 (rdE1 hz7 pz7 rfl rfl h2 ⟨_, _, rfl, rfl, _, _, rfl, rfl, ?_⟩)
              exact wrM M7 rfl rfl rfl (by omega) hxp.2 fun H8 M8 o8 _ => ⟨_, _, rfl, o7.trans o8, _, M8⟩
            · exact wrM M7 rfl rfl rfl (by omega) hxp.2 fun H8 M8 o8 _ => ⟨_, _, rfl, o7.trans o8, _, M8⟩
        · rintro σ H7 ⟨v5, v6, rfl, o7, T, M7⟩
          have s47 : Same H4 H7 := Out.same (sm5.trans sm6) hnew o7
          refine ⟨_, rfl, _, rfl, n, D2, rows, T, rfl, hn, M7, fun v H8 s8 hN => ?_⟩
          exact q v _ H8 (Good.filter _) hN (k4.then (s47.trans s8))
theorem Kp.out {b l : Addr} {rows : List Addr} {H H1 H2 : Hp} (hb : Box H b l) (hnew : ∀ a ∈ rows, H a = none) (k : Kp b l H H1) (o : Out rows H1 H2) : Kp b l H H2 := by
  refine ⟨fun a u h n => o _ _ (k.same a u h n) fun hm => ?_, ?_⟩
  · rw [hnew a hm] at h
    cases h
  · obtain ⟨c0, c1, c2, ns, h1, h2, h3⟩ := k.box
    obtain ⟨_, _, _, _, g1, g2, _⟩ := hb
    exact ⟨c0, c1, c2, ns, o _ _ h1 (fun hm => by rw [hnew b hm] at g1; cases g1), o _ _ h2 (fun hm => by rw [hnew l hm] at g2; cases g2), h3⟩
/-- all but the box and the rows stays -/
def Rst (b : Addr) (rows : List Addr) (H H' : Hp) : Prop := ∀ a o, H a = some o → a ≠ b → a ∉ rows → H' a = some o
theorem Rst.refl (b : Addr) (rows : List Addr) (H : Hp) : Rst b rows H H := fun _ _ h _ _ => h
theorem Rst.kp {b l : Addr} {rows : List Addr} {H H1 H2 : Hp} (x : Rst b rows H H1) (k : Kp b l H1 H2) : Rst b rows H H2 := fun a o h n1 n2 => k.same _ _ (x a o h n1 n2) n1
theorem Rst.out {b : Addr} {rows : List Addr} {H H1 H2 : Hp} (x : Rst b rows H H1) (k : Out rows H1 H2) : Rst b rows H H2 := fun a o h n1 n2 => k _ _ (x a o h n1 n2) n2
theorem Rst.kt {b l m : Addr} {rows : List Addr} {n : Nat} {T : Tm} {H H1 : Hp} (x : Rst b rows H H1) (hb : Box H b l) (M : Mat H m rows n T) : KeepT H H1 := fun a xs h => x a _ h (fun e => by
    obtain ⟨_, _, _, _, g, _⟩ := hb
    rw [e, g] at h
    cases h) fun hm => by
  obtain ⟨j, hj⟩ := List.getElem?_of_mem hm
  rw [M.at_ j a hj] at h
  cases h
theorem Mat.kp {b l m : Addr} {rows : List Addr} {n : Nat} {T : Tm} {H H1 : Hp} (M : Mat H m rows n T) (k : Kp b l H H1) (hm : m ≠ b) (hr : b ∉ rows) : Mat H1 m rows n T :=
  ⟨k.same _ _ M.top hm, M.len, M.nd, fun i a h => k.same _ _ (M.at_ i a h) fun e => hr (by rw [← e]; exact List.mem_of_getElem? h)⟩
def sp_anet : Sp := fun vs H Q _ => ∃ (b l : Addr), vs = [.ref b] ∧ Box H b l ∧ ∀ (v : V) (n : Nat) (ties : List (Nat × Nat)) (H' : Hp), n ≤ 10 → Good n ties → Net H' v n ties → Kp b l H H' → Q v H'
theorem cal_anet (A : At K mg "_law_net" s_law_net) (B : Bi mg) (c_law_take : Cal P w K mg base 1 "_law_take" sp_take) (c_law_pairs : Cal P w K mg base 1 "_law_pairs" sp_pairs) (c_law_by : Cal P w K mg base 2 "_law_by" sp_by)
    (c_law_pick : Cal P w K mg base 2 "_law_pick" (sp_pick K)) (c_law_fixed : Cal P w K mg base 3 "_law_fixed" sp_fixed) (c_law_built : Cal P w K mg base 3 "_law_built" sp_built) (c_law_table : Cal P w K mg base 1 "_law_table" sp_matrix) : Cal P w K mg base 4 "_law_net" sp_anet := by
  have nd := sc_law_net.nd
  refine A.cal sc_law_net (fun _ _ _ _ _ _ us hl => match us, hl with | [_], _ => rfl) ?_ fun f cdv A' outer s H vs Q E hr h => ⟨_, (pss_cons (ps_set (i := 1) nd rfl (.inl rfl) (pe_cal c_law_take hr (by first | decide | omega) (by rfl) passE (pa_cons (pv 0) (pa_cons pe_int pa_nil))))
  (C8.pss_cut (ps_if (pt_cmpR op_eq (pv 1) pe_int (nomark _)) (pss_one (ps_set (i := 2) nd rfl (.inl rfl) (pe_cal c_law_fixed hr (by first | decide | omega) (by rfl) passE (pa_cons (pv 0) pa_nil)))) (pss_one (ps_if (pt_cmpR op_lt (pv 1) pe_int (nomark _)) (pss_cons (ps_asg (pe_tup (pa_cons (pe_op op_add pe_int (pe_cal c_law_take hr (by first | decide | omega) (by rfl) passE (pa_cons (pv 0) (pa_cons pe_int pa_nil)))) (pa_cons (pe_op op_add pe_int (pe_cal c_law_take hr (by first | decide | omega) (by rfl) passE (pa_cons (pv 0) (pa_cons pe_int pa_nil)))) pa_nil))) (pg_tupK (K := K) (n := 2) rfl rfl (pgs_cons (pg_name (i := 3) nd rfl (.inr rfl)) (pgs_cons (pg_name (i := 4) nd rfl (.inl rfl)) pgs_nil))))
  (pss_cons (ps_setLc (i := 5) (own := [("k", 9)]) rfl nd rfl rfl (sw_true rfl rfl rfl (by decide +kernel)) (pi_range1 (by rfl) B.range (pa_cons (pv 3) pa_nil)) (blkOk_by (own := [("k", 9)]) (N := N_law_net) (sc := defScope s_law_net) (by decide +kernel)) (fun _ _ _ _ _ => (pg_name (i := 9) nd rfl (.inl rfl) (.inr rfl))) (fun _ _ _ _ _ => pts_nil) (fun _ _ _ _ _ => (pe_op op_rep (pe_lst (pa_cons pe_bl pa_nil)) (pv 3))))
  (pss_cons (ps_for passOwn rfl (pi_listK (K := K) rfl (pe_cal c_law_pairs hr (by first | decide | omega) (by rfl) passE (pa_cons (pv 3) pa_nil))) (pg_tupK (K := K) (n := 2) rfl rfl (pgs_cons (pg_name (i := 6) nd rfl (.inl rfl)) (pgs_cons (pg_name (i := 7) nd rfl (.inl rfl)) pgs_nil))) (pss_one (ps_asg (pe_cmpR op_eq (pe_cal c_law_take hr (by first | decide | omega) (by rfl) passE (pa_cons (pv 0) (pa_cons (pv 4) pa_nil))) pe_int (nomark _)) (pg_sub (pe_ix (ix_listK (K := K) rfl) (pv 5) (pv 6) (fun _ _ => rfl)) (pv 7) set_list))))
  (pss_one (ps_set (i := 2) nd rfl (.inl rfl) (pe_cal c_law_by hr (by first | decide | omega) (by rfl) passE (pa_cons (pv 3) (pa_cons (pv 5) pa_nil)))))))) (pss_one (ps_set (i := 2) nd rfl (.inl rfl) (pe_cal c_law_built hr (by first | decide | omega) (by rfl) passE (pa_cons (pv 0) (pa_cons (pe_op op_mod (pv 1) pe_int) (pa_cons (pe_op op_add pe_int (pe_cal c_law_take hr (by first | decide | omega) (by rfl) passE (pa_cons (pv 0) (pa_cons pe_int pa_nil)))) pa_nil)))))))))
  (pss_cons (ps_set (i := 5) nd rfl (.inl rfl) (pe_cal c_law_table hr (by first | decide | omega) (by rfl) passE (pa_cons (pv 2) pa_nil)))
  (C8.pss_cut (ps_if (pt_cmpR op_eq (pe_cal c_law_take hr (by first | decide | omega) (by rfl) passE (pa_cons (pv 0) (pa_cons pe_int pa_nil))) pe_int (nomark _)) (pss_one (ps_for passOwn rfl (pi_listK (K := K) rfl (pe_cal c_law_pairs hr (by first | decide | omega) (by rfl) passE (pa_cons (pe_ix (ix_tupK (K := K) rfl) (pv 2) pe_int (fun _ _ => rfl)) pa_nil))) (pg_tupK (K := K) (n := 2) rfl rfl (pgs_cons (pg_name (i := 6) nd rfl (.inl rfl)) (pgs_cons (pg_name (i := 7) nd rfl (.inl rfl)) pgs_nil))) (pss_one (ps_asg (pe_not (pe_ix (ix_listK (K := K) rfl) (pe_ix (ix_listK (K := K) rfl) (pv 5) (pv 6) (fun _ _ => rfl)) (pv 7) (fun _ _ => rfl))) (pg_sub (pe_ix (ix_listK (K := K) rfl) (pv 5) (pv 6) (fun _ _ => rfl)) (pv 7) set_list))))) pss_nil)
  (pss_cons (ps_for passOwn rfl (pi_range1 (by rfl) B.range (pa_cons (pe_callB (call_max2 rfl) (by rfl) B.max (by decide +kernel) (pa_cons pe_int (pa_cons (pe_op op_sub (pe_cal c_law_take hr (by first | decide | omega) (by rfl) passE (pa_cons (pv 0) (pa_cons pe_int pa_nil))) pe_int) pa_nil))) pa_nil)) (pg_name (i := 8) nd rfl (.inl rfl)) (pss_one (ps_if (pt_cmpR op_gt (pe_ix (ix_tupK (K := K) rfl) (pv 2) pe_int (fun _ _ => rfl)) pe_int (nomark _)) (pss_cons (ps_asg (pe_cal c_law_pick hr (by first | decide | omega) (by rfl) passE (pa_cons (pv 0) (pa_cons (pe_cal c_law_pairs hr (by first | decide | omega) (by rfl) passE (pa_cons (pe_ix (ix_tupK (K := K) rfl) (pv 2) pe_int (fun _ _ => rfl)) pa_nil)) pa_nil))) (pg_tupK (K := K) (n := 2) rfl rfl (pgs_cons (pg_name (i := 6) nd rfl (.inl rfl)) (pgs_cons (pg_name (i := 7) nd rfl (.inl rfl)) pgs_nil))))
  (pss_one (ps_asg (pe_not (pe_ix (ix_listK (K := K) rfl) (pe_ix (ix_listK (K := K) rfl) (pv 5) (pv 6) (fun _ _ => rfl)) (pv 7) (fun _ _ => rfl))) (pg_sub (pe_ix (ix_listK (K := K) rfl) (pv 5) (pv 6) (fun _ _ => rfl)) (pv 7) set_list)))) pss_nil)))
  (pss_one (ps_ret (pe_cal c_law_by hr (by first | decide | omega) (by rfl) passE (pa_cons (pe_ix (ix_tupK (K := K) rfl) (pv 2) pe_int (fun _ _ => rfl)) (pa_cons (pv 5) pa_nil)))))))))), ?_⟩
  · rintro vs H Q E ⟨b, l, rfl, _⟩
    rfl
  · obtain ⟨b, l, rfl, hb, q⟩ := h
    refine ⟨_, rfl, b, l, _, rfl, hb, by decide, by decide, fun so H1 so0 so1 k1 => ?_⟩
    refine ⟨fun σ' H' => ∃ (v : V) (n : Nat) (ties : List (Nat × Nat)) (v3 v4 v5 v6 v7 : Option V), σ' = [some (.ref b), some (.int so), some v, v3, v4, v5, v6, v7, none, none] ∧ n ≤ 10 ∧ Good n ties ∧ Net H' v n ties ∧ Kp b l H H', ?_, ?_⟩
    · refine ⟨_, rfl, rfl, _, rfl, ifI (fun c => ?_) (fun c => ?_)⟩
      · refine ⟨_, rfl, b, l, rfl, k1.box, fun v n ties H2 hn hg hN k2 => ?_⟩
        exact ⟨v, n, ties, _, _, _, _, _, rfl, hn, hg, hN, k1.trans k2⟩
      refine ⟨_, rfl, _, _, rfl, rfl, _, rfl, ifD (fun c => ?_) (fun c => ?_)⟩
      · refine ⟨_, rfl, b, l, _, rfl, k1.box, by decide, by decide, fun z0 H2 a0 a1 k2 => ⟨_, _, rfl, rfl, _, rfl, b, l, _, rfl, k2.box, by decide, by decide, fun z1 H3 b0 b1 k3 => ⟨_, _, rfl, rfl, by show 2 ≤ sizeLine; decide, fun t0 ht0 => ?_⟩⟩⟩
        obtain ⟨n, en⟩ : ∃ n : Nat, 1 + z0 = n := ⟨(1 + z0).toNat, by omega⟩
        dsimp only
        rw [en]
        have k4 : Kp b l H (upd H3 t0 (.tup [.int n, .int (2 + z1)])) := ((k1.trans k2).trans k3).new ht0
        refine ⟨t0, _, rfl, SqT.of upd_same, rfl, _, _, rfl, _, _, rfl, rfl, ?_⟩
        generalize upd H3 t0 (.tup [.int n, .int (2 + z1)]) = H4 at k4 ⊢
        refine ⟨_, rfl, _, rfl, by omega, by omega, fun D2 hD2 => ?_⟩
        have hDb : D2 ≠ b := box_ne k4.box hD2
        refine comp_rows (lo := 0) (n := (n : Int).toNat) (sizeBig (by omega)) (fun _ => rowV n fun _ => false) hD2 ?_ ?_
        · intro i H5 Yes No hi sm2 yes
          refine ⟨rfl, by show 1 ≤ sizeLine; decide, fun p hp => ?_⟩
          refine ⟨_, rfl, p, n, _, rfl, rfl, upd_same, by omega, by omega, ?_, fun a ha => ?_⟩
          · show 1 * (n : Int).toNat ≤ _
            exact Nat.le_of_lt (sizeBig (by omega))
          · refine yes a _ (sNew (same_laid hp) ha) ?_ ?_
            · by_cases e : a = p
              · rw [e]
                exact hp
              · rw [upd_ne e] at ha
                exact ha
            · rw [upd_same, show ((n : Int)).toNat = n from Int.toNat_natCast n, rep_rowV]
        · intro H5 rows sm5 hy rw
          rw [show ((n : Int)).toNat = n from Int.toNat_natCast n] at rw
          have M0 : Mat H5 D2 rows n (tieT []) := (rows_mat (f := fun _ _ => false) hy rw).congr fun i j _ _ => rfl
          have hnew := rw.new
          have hbr : b ∉ rows := fun hm => by
            have := hnew b hm
            obtain ⟨_, _, _, _, g, _⟩ := k4.box
            rw [this] at g
            cases g
          refine ⟨_, rfl, n, rfl, by omega, fun pp ps H6 sm6 np hps prs => ?_⟩
          have M6 := M0.same sm6
          have k46 : Kp b l H4 H6 := (Kp.refl k4.box).then (sm5.trans sm6)
          have hpp : pp ∉ rows := fun hm => by
            obtain ⟨j, hj⟩ := List.getElem?_of_mem hm
            rw [M0.at_ j pp hj] at np
            cases np
          have hpb : pp ≠ b := box_ne (k4.box.same sm5) np
          refine ⟨pp, rfl, ⟨_, SqL.of hps⟩, for_list (K := K) (a := pp) (xs := ps) (fun i σ H7 => ∃ v6 v7, σ = [some (.ref b), some (.int so), none, some (.int n), some (.int (2 + z1)), some (.ref D2), v6, v7, none, none] ∧ Kp b l H4 H7 ∧ Rst b rows H6 H7 ∧ ∃ T, Mat H7 D2 rows n T)
            ⟨_, _, rfl, k46, Rst.refl _ _ _, _, M6⟩ (fun i σ H7 _ ⟨_, _, _, _, o, _⟩ => SqL.of (o _ _ hps hpb hpp)) ?_ ?_⟩
          · rintro i v σ H7 hv ⟨v6, v7, rfl, k7, o7, T, M7⟩
            obtain ⟨x, hx, hxr⟩ := pAtL prs hv
            obtain ⟨t, rfl, ht⟩ := persPr _ _ _ _ (o7.kt k46.box M6) hxr
            have hxp := mem_allPairs.mp (List.mem_of_getElem? hx)
            refine ⟨t, _, rfl, SqT.of ht, rfl, _, _, rfl, _, _, rfl, rfl, ?_⟩
            refine ⟨_, rfl, _, rfl, b, l, _, rfl, k7.box, by omega, by omega, fun z H8 z0 z1 k8 => ⟨rfl, ?_⟩⟩
            have M8 := M7.kp k8 hDb hbr
            exact wrM M8 rfl rfl rfl (by omega) hxp.2 fun H9 M9 o9 _ => ⟨_, _, rfl, Kp.out k4.box hnew (k7.trans k8) o9, (o7.kp k8).out o9, _, M9⟩
          · rintro σ H7 ⟨v6, v7, rfl, k7, o7, T, M7⟩
            refine ⟨_, rfl, _, rfl, n, D2, rows, T, rfl, by omega, M7, fun v H8 s8 hN => ?_⟩
            exact ⟨v, n, _, _, _, _, _, _, rfl, by omega, Good.filter _, hN, (k4.trans k7).then s8⟩
      · refine ⟨_, rfl, _, rfl, _, _, rfl, rfl, by show (0 : Int) < 5; decide, _, rfl, b, l, _, rfl, k1.box, by decide, by decide, fun z H2 a0 a1 k2 => ⟨_, _, rfl, rfl, ?_⟩⟩
        obtain ⟨n, en⟩ : ∃ n : Nat, 3 + z = n := ⟨(3 + z).toNat, by omega⟩
        unfold tNil
        dsimp only
        rw [en]
        refine ⟨b, l, _, n, rfl, by omega, k2.box, fun v ties H3 hg hN k3 => ?_⟩
        exact ⟨v, n, ties, _, _, _, _, _, rfl, by omega, hg, hN, (k1.trans k2).trans k3⟩
    · rintro σ' H2 ⟨v, n, ties, v3, v4, v5, v6, v7, rfl, hn, hg, hN, k2⟩
      refine ⟨_, rfl, v, n, ties, rfl, hN, by omega, fun p hp => ⟨by have := hg.1 p hp; omega, (hg.1 p hp).2⟩, fun D rows H3 sm3 hD hnew M3 => ?_⟩
      obtain ⟨t0, u0, rfl, ht0, hu0⟩ := hN
      have hDb : D ≠ b := box_ne k2.box hD
      have hbr : b ∉ rows := fun hm => by
        have := hnew b hm
        obtain ⟨_, _, _, _, g, _⟩ := k2.box
        rw [this] at g
        cases g
      refine ⟨fun σ' H' => ∃ v6 v7 T, σ' = [some (.ref b), some (.int so), some (.ref t0), v3, v4, some (.ref D), v6, v7, none, none] ∧ Kp b l H2 H' ∧ Mat H' D rows n T, ?_, ?_⟩
      · refine ⟨_, rfl, b, l, _, rfl, k2.box.same sm3, by decide, by decide, fun z H4 a0 a1 k4 => ⟨rfl, _, rfl, ifI (fun c => ?_) (fun c => ?_)⟩⟩
        · have M4 := M3.kp k4 hDb hbr
          have k24 : Kp b l H2 H4 := ((Kp.refl k2.box).then sm3).trans k4
          refine ⟨_, rfl, _, _, _, _, rfl, rfl, SqT.of (k24.tup k2.box ht0), rfl, n, rfl, by omega, fun pp ps H6 sm6 np hps prs => ?_⟩
          have M6 := M4.same sm6
          have k26 : Kp b l H2 H6 := k24.then sm6
          have hpp : pp ∉ rows := fun hm => by
            obtain ⟨j, hj⟩ := List.getElem?_of_mem hm
            rw [M4.at_ j pp hj] at np
            cases np
          have hpb : pp ≠ b := box_ne k24.box np
          refine ⟨pp, rfl, ⟨_, SqL.of hps⟩, for_list (K := K) (a := pp) (xs := ps) (fun i σ H7 => ∃ v6 v7, σ = [some (.ref b), some (.int so), some (.ref t0), v3, v4, some (.ref D), v6, v7, none, none] ∧ Out rows H6 H7 ∧ ∃ T, Mat H7 D rows n T)
            ⟨_, _, rfl, Out.refl _ _, _, M6⟩ (fun i σ H7 _ ⟨_, _, _, o, _⟩ => SqL.of (o _ _ hps hpp)) ?_ ?_⟩
          · rintro i v σ H7 hv ⟨v6, v7, rfl, o7, T, M7⟩
            obtain ⟨x, hx, hxr⟩ := pAtL prs hv
            obtain ⟨t, rfl, ht⟩ := persPr _ _ _ _ (o7.kt M6) hxr
            have hxp := mem_allPairs.mp (List.mem_of_getElem? hx)
            refine ⟨t, _, rfl, SqT.of ht, rfl, _, _, rfl, _, _, rfl, rfl, ?_⟩
            refine rdM M7 rfl rfl rfl (by omega) hxp.2 ⟨_, rfl, ?_⟩
            exact wrM M7 rfl rfl rfl (by omega) hxp.2 fun H9 M9 o9 _ => ⟨_, _, rfl, o7.trans o9, _, M9⟩
          · rintro σ H7 ⟨v6, v7, rfl, o7, T, M7⟩
            exact ⟨_, _, T, rfl, Kp.out k2.box hnew k26 o7, M7⟩
        · exact ⟨_, _, _, rfl, ((Kp.refl k2.box).then sm3).trans k4, M3.kp k4 hDb hbr⟩
      · rintro σ' H4 ⟨v6, v7, T, rfl, k4, M4⟩
        refine ⟨_, rfl, b, l, _, rfl, k4.box, by decide, by decide, fun z H5 a0 a1 k5 => ⟨_, _, rfl, rfl, _, _, rfl, ?_⟩⟩
        obtain ⟨m, em, hm⟩ : ∃ m : Nat, (if z - 1 > 0 then z - 1 else 0) = (m : Int) ∧ m ≤ 4 := ⟨(if z - 1 > 0 then z - 1 else 0).toNat, by split <;> omega, by split <;> omega⟩
        refine ⟨(m : Int), congrArg (fun z => [V.int z]) em, by omega, by omega, for_range (lo := 0) (n := (m : Int).toNat) (fun i σ H6 => ∃ v6 v7 v8 T, σ = [some (.ref b), some (.int so), some (.ref t0), v3, v4, some (.ref D), v6, v7, v8, none] ∧ Kp b l H2 H6 ∧ Mat H6 D rows n T) ⟨_, _, _, _, rfl, k4.trans k5, M4.kp k5 hDb hbr⟩ ?_ ?_⟩
        · rintro i σ H6 hi ⟨v6, v7, v8, T, rfl, k6, M6⟩
          refine ⟨_, rfl, _, _, _, _, rfl, rfl, SqT.of (k6.tup k2.box ht0), rfl, _, _, rfl, rfl, _, rfl, ifD (fun c => ?_) (fun c => ?_)⟩
          · refine ⟨_, rfl, _, rfl, _, _, _, _, rfl, rfl, SqT.of (k6.tup k2.box ht0), rfl, n, rfl, by omega, fun pp ps H7 sm7 np hps prs => ?_⟩
            have lp := Paired.length prs
            have lp2 := allPairs_len n
            have lp3 : n * n ≤ 1000 * 1000 := Nat.mul_le_mul (by omega) (by omega)
            have hne : ps ≠ [] := fun e => by
              have hmem : (0, 1) ∈ allPairs n := mem_allPairs.mpr ⟨by decide, by show 1 < n; omega⟩
              rw [e, List.length_nil] at lp
              rw [List.eq_nil_of_length_eq_zero lp.symm] at hmem
              cases hmem
            have k7 := k6.then sm7
            refine ⟨b, l, pp, ps, rfl, k7.box, .inl ⟨hps, box_ne k6.box np⟩, hne, by omega, fun v H8 hv k8 => ?_⟩
            obtain ⟨x, hx, hxr⟩ := pMemL prs hv
            obtain ⟨t, rfl, ht⟩ := persPr _ _ _ _ (k8.kt k7.box) hxr
            have hxp := mem_allPairs.mp hx
            have M8 := (M6.same sm7).kp k8 hDb hbr
            refine ⟨t, _, rfl, SqT.of ht, rfl, _, _, rfl, _, _, rfl, rfl, ?_⟩
            refine rdM M8 rfl rfl rfl (by omega) hxp.2 ⟨_, rfl, ?_⟩
            exact wrM M8 rfl rfl rfl (by omega) hxp.2 fun H9 M9 o9 _ => ⟨_, _, _, _, rfl, Kp.out k2.box hnew (k7.trans k8) o9, M9⟩
          · exact ⟨_, _, _, T, rfl, k6, M6⟩
        · rintro σ H6 ⟨v6, v7, v8, T, rfl, k6, M6⟩
          refine ⟨_, rfl, _, _, _, _, rfl, rfl, SqT.of (k6.tup k2.box ht0), rfl, _, rfl, n, D, rows, T, rfl, by omega, M6, fun v H8 s8 hN => ?_⟩
          exact q v n _ H8 hn (Good.filter _) hN ((k2.trans k6).then s8)
end
end Ns
/-! Own layer: the judge's looks at papers of chordal and of split, of any data. -/
namespace Ns
open PySem PySem.Spec PyProof.Rows L2
local macro_rules | `(tactic| walk_at "look") => `(tactic| first | assumption | exact upd_same | (refine (upd_ne (by first | assumption | exact Ne.symm (by assumption))).trans ?_; walk_at "look"))
local macro_rules | `(tactic| walk_at "cond") => `(tactic| first | assumption | omega | (dsimp only; omega) | exact ⟨by omega, by omega⟩ | decide | exact ⟨by decide, by decide, by decide⟩ | exact .inr ⟨by decide, by decide⟩ | exact .inl ⟨by decide, by decide⟩ | exact .inr ⟨by omega, by omega⟩ | exact .inl ⟨by omega, by omega⟩)
local macro_rules | `(tactic| walk_at "rd1") => `(tactic| first
  | refine ⟨_, rfl, ?_⟩
  | refine ⟨_, _, rfl, rfl, ?_⟩
  | refine ⟨rfl, ?_⟩
  | refine ⟨_, _, rfl, rfl, (by walk_at "cond"), ?_⟩
  | refine ⟨_, _, _, _, rfl, rfl, SqL.of (by walk_at "look"), rfl, ?_⟩
  | refine ⟨_, _, _, _, rfl, rfl, SqT.of (by walk_at "look"), rfl, ?_⟩
  | refine ⟨_, _, _, _, rfl, rfl, (by walk_at "look"), rfl, ?_⟩
  | refine .inl ⟨_, rfl, ?_⟩
  | refine ⟨.inl ⟨rfl, _, SqL.of (by walk_at "look")⟩, ?_⟩
  | refine ⟨_, _, rfl, ⟨by omega, by omega, by omega, by omega⟩, ?_⟩
  | refine ⟨_, rfl, (by omega), (by omega), ?_⟩
  | refine And.intro (by walk_at "cond") ?_)
local macro_rules | `(tactic| walk_at "rd") => `(tactic| repeat (walk_at "rd1"))
abbrev N_is_long_ring : List Str := ["net", "tied", "x", "i", "j"]
theorem sc_is_long_ring : FnScope N_is_long_ring ["net", "tied", "x"] (defScope s_is_long_ring) := ⟨rfl, rfl, rfl, by decide +kernel, rfl, by decide +kernel, by decide +kernel⟩
abbrev N_is_rest : List Str := ["tied", "points", "x", "y"]
theorem sc_is_rest : FnScope N_is_rest ["tied", "points"] (defScope s_is_rest) := ⟨rfl, rfl, rfl, by decide +kernel, rfl, by decide +kernel, by decide +kernel⟩
/-! ### what the papers are -/
def reB (T : Tm) (L : List Nat) : Bool := decide (∀ x ∈ L, ∀ y ∈ L, x < y → T x y = false)
/-- the ties of the ring are those of neighbours in it -/
def loB (T : Tm) (xs : List Nat) : Bool := (allPairs xs.length).all fun p => T (xs.getD p.1 0) (xs.getD p.2 0) == (decide (p.2 = p.1 + 1) || (decide (p.1 = 0) && decide (p.2 = xs.length - 1)))
/-- a function of the points that data is -/
def ptsF (n : Nat) (F : List Nat → Bool) : PyData → Bool
  | .tuple ds => match ptsOf n ds with
    | some xs => decide xs.Nodup && F xs
    | none => false
  | _ => false
def longD (n : Nat) (T : Tm) : PyData → Bool := ptsF n fun xs => decide (4 ≤ xs.length) && loB T xs
theorem ptsF_all {n : Nat} {F : List Nat → Bool} {xs : List Nat} (h : ptsOf n (xs.map fun x : Nat => PyData.int (x : Int)) = some xs) : ptsF n F (.tuple (xs.map fun x : Nat => PyData.int (x : Int))) = (decide xs.Nodup && F xs) := by
  unfold ptsF
  dsimp only
  rw [h]
theorem ptsF_no {n : Nat} {F : List Nat → Bool} {d : PyData} (h : arePtsD n d = false) : ptsF n F d = false := by
  cases d with
  | tuple ds =>
    unfold arePtsD at h
    unfold ptsF
    dsimp only at h ⊢
    cases e : ptsOf n ds with
    | none => rfl
    | some xs =>
      rw [e] at h
      dsimp only at h ⊢
      rw [h, Bool.false_and]
  | _ => rfl
theorem ptsF_yes {n : Nat} {d : PyData} (h : arePtsD n d = true) : ∃ xs : List Nat, d = .tuple (xs.map fun x : Nat => PyData.int (x : Int)) ∧ (∀ x ∈ xs, x < n) ∧ xs.Nodup ∧ ∀ F, ptsF n F d = F xs := by
  cases d with
  | tuple ds =>
    unfold arePtsD at h
    dsimp only at h
    cases e : ptsOf n ds with
    | none => rw [e] at h; cases h
    | some xs =>
      rw [e] at h
      dsimp only at h
      obtain ⟨e1, e2⟩ := ptsOf_some e
      refine ⟨xs, by rw [e1], e2, of_decide_eq_true h, fun F => ?_⟩
      unfold ptsF
      dsimp only
      rw [e]
      dsimp only
      rw [h, Bool.true_and]
  | _ => cases h
section
variable {P : Program} {w : World} {K : PySem.W.Frag} {mg : Str → Option Value} {base : Heap}
theorem dp_ptsT {H : Hp} {v : V} {xs : List Nat} (h : Dp K H v (.tuple (xs.map fun x : Nat => PyData.int (x : Int)))) : ∃ a, v = .ref a ∧ SqT K H a (xs.map pI) := by
  cases h with
  | tup hs ha =>
    have e := dps_pts ha
    subst e
    exact ⟨_, rfl, hs⟩
/-! ### company, rest -/
end
end Ns
/-! Own layer: halves, walked. -/
namespace Ns
open PySem PySem.Spec PyProof.Rows L2
local macro_rules | `(tactic| walk_at "look") => `(tactic| first | assumption | exact upd_same | (refine (upd_ne (by first | assumption | exact Ne.symm (by assumption))).trans ?_; walk_at "look"))
local macro_rules | `(tactic| walk_at "cond") => `(tactic| first | assumption | omega | (dsimp only; omega) | exact ⟨by omega, by omega⟩ | decide | exact ⟨by decide, by decide, by decide⟩ | exact .inr ⟨by decide, by decide⟩ | exact .inl ⟨by decide, by decide⟩ | exact .inr ⟨by omega, by omega⟩ | exact .inl ⟨by omega, by omega⟩)
local macro_rules | `(tactic| walk_at "rd1") => `(tactic| first
  | refine ⟨_, rfl, ?_⟩
  | refine ⟨_, _, rfl, rfl, ?_⟩
  | refine ⟨rfl, ?_⟩
  | refine ⟨_, _, rfl, rfl, (by walk_at "cond"), ?_⟩
  | refine ⟨_, _, _, _, rfl, rfl, SqL.of (by walk_at "look"), rfl, ?_⟩
  | refine ⟨_, _, _, _, rfl, rfl, SqT.of (by walk_at "look"), rfl, ?_⟩
  | refine ⟨_, _, _, _, rfl, rfl, (by walk_at "look"), rfl, ?_⟩
  | refine .inl ⟨_, rfl, ?_⟩
  | refine ⟨.inl ⟨rfl, _, SqL.of (by walk_at "look")⟩, ?_⟩
  | refine ⟨_, _, rfl, ⟨by omega, by omega, by omega, by omega⟩, ?_⟩
  | refine ⟨_, rfl, (by omega), (by omega), ?_⟩
  | refine And.intro (by walk_at "cond") ?_)
local macro_rules | `(tactic| walk_at "rd") => `(tactic| repeat (walk_at "rd1"))
/-- within a sweep: the first k reached ones have their sides -/
def Swept (f0 f : Nat → Option Nat) (S : List Ent) (k : Nat) : Prop := (∀ j e, j < k → S[j]? = some e → f e.1 = some (e.2.2 % 2)) ∧ ∀ x, (∀ j e, j < k → S[j]? = some e → e.1 ≠ x) → f x = f0 x
theorem Swept.next {f0 f : Nat → Option Nat} {S : List Ent} {k : Nat} {e : Ent} (nd : (S.map (·.1)).Nodup) (h : Swept f0 f S k) (he : S[k]? = some e) : Swept f0 (fun z => if z = e.1 then some (e.2.2 % 2) else f z) S (k + 1) := by
  refine ⟨fun j e' hj he' => ?_, fun x hx => ?_⟩
  · by_cases c : e'.1 = e.1
    · have := ent_uniq nd (List.mem_of_getElem? he') (List.mem_of_getElem? he) c
      rw [this]
      exact if_pos rfl
    · show (if _ then _ else _) = _
      rw [if_neg c]
      refine h.1 j e' ?_ he'
      refine Nat.lt_of_le_of_ne (by omega) fun ej => ?_
      subst ej
      rw [he] at he'
      exact c (by rw [Option.some.inj he'])
  · show (if _ then _ else _) = _
    rw [if_neg (fun c : x = e.1 => hx k e (by omega) he c.symm)]
    exact h.2 x fun j e' hj he' => hx j e' (by omega) he'
theorem Swept.all {f0 f : Nat → Option Nat} {S : List Ent} (h : Swept f0 f S S.length) : (∀ e ∈ S, f e.1 = some (e.2.2 % 2)) ∧ ∀ x, x ∉ S.map (·.1) → f x = f0 x := by
  refine ⟨fun e he => ?_, fun x hx => ?_⟩
  · obtain ⟨j, hj⟩ := List.getElem?_of_mem he
    exact h.1 j e (List.getElem?_eq_some_iff.mp hj).1 hj
  · exact h.2 x fun j e _ he c => hx (List.mem_map.mpr ⟨e, List.mem_of_getElem? he, c⟩)
end Ns
/-! Own layer: colours and forests of a net, in plain Lean. -/
namespace Ns
open PySem PySem.Spec PyProof.Rows L2
/-! ### a forest out of growing -/
def parI : Option Nat → Int
  | none => -1
  | some p => (p : Int)
/-- what goes along a tree's ties goes through the tree -/
theorem tree_eq {n : Nat} {T : Tm} {sh : Nat → Bool} {r : Nat} {S : List Ent} (B : BfsW n T sh r S) (C : Nat → Prop) (hC : ∀ x y d, (x, some y, d) ∈ S → T y x = true → y ∈ S.map (·.1) → (C x ↔ C y)) : ∀ (d : Nat) (x : Nat) (p : Option Nat), (x, p, d) ∈ S → (C x ↔ C r)
  | d, x, p, h => by
    rcases B.par _ h with e | ⟨y, py, d', e, t, s, hy⟩
    · cases e
      exact Iff.rfl
    · have ed : d = d' + 1 := congrArg (fun z : Ent => z.2.2) e
      have ep : p = some y := congrArg (fun z : Ent => z.2.1) e
      subst ed
      subst ep
      exact (hC x y _ h t (List.mem_map.mpr ⟨_, hy, rfl⟩)).trans (tree_eq B C hC d' y py hy)
  termination_by d => d
theorem bfs_in {n : Nat} {T : Tm} {r : Nat} {S : List Ent} (B : Bfs n T opn r S) {x y : Nat} (hx : x ∈ S.map (·.1)) (t : T x y = true) (hy : y < n) : y ∈ S.map (·.1) := by
  obtain ⟨e, he, rfl⟩ := List.mem_map.mp hx
  obtain ⟨py, d, h1, _⟩ := B.closed e.1 e.2.1 e.2.2 y he t hy rfl
  exact List.mem_map.mpr ⟨_, h1, rfl⟩
theorem bfs_lt {n : Nat} {T : Tm} {sh : Nat → Bool} {r : Nat} {S : List Ent} (B : BfsW n T sh r S) {x : Nat} (hx : x ∈ S.map (·.1)) : x < n := by
  obtain ⟨e, he, rfl⟩ := List.mem_map.mp hx
  exact B.lt e he
/-- two that meet are one -/
theorem bfs_meet {n : Nat} {T : Tm} (sy : ∀ i j, T i j = T j i) {r r' : Nat} {S S' : List Ent} (B : Bfs n T opn r S) (B' : Bfs n T opn r' S') {z : Nat} (h1 : z ∈ S.map (·.1)) (h2 : z ∈ S'.map (·.1)) {x : Nat} (hx : x ∈ S.map (·.1)) : x ∈ S'.map (·.1) := by
  have go := tree_eq B.toBfsW (fun u => u ∈ S'.map (·.1)) (fun u v d h t hv => ⟨fun hu => bfs_in B' hu (by rw [sy]; exact t) (bfs_lt B.toBfsW hv), fun hv' => bfs_in B' hv' t (B.lt _ h)⟩)
  obtain ⟨e, he, rfl⟩ := List.mem_map.mp h1
  obtain ⟨g, hg, rfl⟩ := List.mem_map.mp hx
  exact (go g.2.2 g.1 g.2.1 hg).mpr ((go e.2.2 e.1 e.2.1 he).mp h2)
/-- f tells the parents in the tree of x -/
def Told (n : Nat) (T : Tm) (f : Nat → Int) (x : Nat) : Prop := ∃ r S, Bfs n T opn r S ∧ x ∈ S.map (·.1) ∧ ∀ e ∈ S, f e.1 = parI e.2.1
theorem Told.next {n : Nat} {T : Tm} (sy : ∀ i j, T i j = T j i) {f g : Nat → Int} {r : Nat} {S : List Ent} (B : Bfs n T opn r S) (hS : ∀ e ∈ S, g e.1 = parI e.2.1) (hn : ∀ x, x ∉ S.map (·.1) → g x = f x) {x : Nat} (h : Told n T f x) : Told n T g x := by
  by_cases c : x ∈ S.map (·.1)
  · exact ⟨r, S, B, c, hS⟩
  · obtain ⟨r', S', B', hx, hS'⟩ := h
    refine ⟨r', S', B', hx, fun e he => ?_⟩
    rw [hn e.1 fun h2 => c (bfs_meet sy B' B (List.mem_map.mpr ⟨e, he, rfl⟩) h2 hx)]
    exact hS' e he
/-! ### rings by plain looking -/
theorem prv_zero {xs : List Nat} {x : Nat} (h : xs.getLast? = some x) : prv xs 0 = x := by
  rw [List.getLast?_eq_getElem?] at h
  have hl := (List.getElem?_eq_some_iff.mp h).1
  unfold prv
  rw [Nat.zero_add, Nat.mod_eq_of_lt hl, List.getD_eq_getElem?_getD, h]
  rfl
theorem prv_succ {xs : List Nat} {k : Nat} (h : k + 1 < xs.length) : prv xs (k + 1) = xs.getD k 0 := by
  unfold prv
  rw [show k + 1 + xs.length - 1 = k + xs.length by omega, Nat.add_mod_right, Nat.mod_eq_of_lt (by omega)]
/-! ### growing comes to an end -/
end Ns
/-! Own layer: the judge's looks at papers of chordal and of split, of any data, second part. -/
--CUT place_split
namespace Ns
open PySem PySem.Spec PyProof.Rows L2
local macro_rules | `(tactic| walk_at "look") => `(tactic| first | assumption | exact upd_same | (refine (upd_ne (by first | assumption | exact Ne.symm (by assumption))).trans ?_; walk_at "look"))
local macro_rules | `(tactic| walk_at "cond") => `(tactic| first | assumption | omega | (dsimp only; omega) | exact ⟨by omega, by omega⟩ | decide | exact ⟨by decide, by decide, by decide⟩ | exact .inr ⟨by decide, by decide⟩ | exact .inl ⟨by decide, by decide⟩ | exact .inr ⟨by omega, by omega⟩ | exact .inl ⟨by omega, by omega⟩)
local macro_rules | `(tactic| walk_at "rd1") => `(tactic| first
  | refine ⟨_, rfl, ?_⟩
  | refine ⟨_, _, rfl, rfl, ?_⟩
  | refine ⟨rfl, ?_⟩
  | refine ⟨_, _, rfl, rfl, (by walk_at "cond"), ?_⟩
  | refine ⟨_, _, _, _, rfl, rfl, SqL.of (by walk_at "look"), rfl, ?_⟩
  | refine ⟨_, _, _, _, rfl, rfl, SqT.of (by walk_at "look"), rfl, ?_⟩
  | refine ⟨_, _, _, _, rfl, rfl, (by walk_at "look"), rfl, ?_⟩
  | refine .inl ⟨_, rfl, ?_⟩
  | refine ⟨.inl ⟨rfl, _, SqL.of (by walk_at "look")⟩, ?_⟩
  | refine ⟨_, _, rfl, ⟨by omega, by omega, by omega, by omega⟩, ?_⟩
  | refine ⟨_, rfl, (by omega), (by omega), ?_⟩
  | refine And.intro (by walk_at "cond") ?_)
local macro_rules | `(tactic| walk_at "rd") => `(tactic| repeat (walk_at "rd1"))
section
variable {P : Program} {w : World} {K : PySem.W.Frag} {mg : Str → Option Value} {base : Heap}
theorem slQT {H : Hp} {t : Addr} {xs : List V} {lo hi : Option Int} {Q : VK} (ht : SqT K H t xs) (q : ∀ (r : Addr) H', Same H H' → SqT K H' r (cutV xs lo hi) → Q (.ref r) H') : rSlA K (.ref t) lo hi H Q := by
  refine ⟨t, xs, rfl, ht, fun hw => ?_, fun _ p hp => q p _ (same_laid hp) (SqT.of upd_same)⟩
  refine q t H (Same.refl H) ?_
  unfold cutV
  rw [hw.1, hw.2, List.drop_zero, Nat.sub_zero, List.take_length]
  exact ht
theorem ifND {p : Prop} [Decidable p] {A B : Prop} (h1 : ¬ p → A) (h2 : p → B) : if (!decide p) = true then A else B := ifN (fun c => h1 (of_decide_eq_false c)) (fun c => h2 (of_decide_eq_true c))
theorem inV_ptsJ (x : Nat) : ∀ r : List Nat, inV (pI x) (r.map pI) = decide (x ∈ r)
  | [] => by simp [inV]
  | y :: r => by
    have h := inV_ptsJ x r
    unfold inV at *
    rw [List.map_cons, List.any_cons, h]
    show (((y : Int) == (x : Int)) || decide (x ∈ r)) = _
    rw [Bool.eq_iff_iff, Bool.or_eq_true, beq_iff_eq, decide_eq_true_eq, decide_eq_true_eq, List.mem_cons]
    exact ⟨fun h => h.elim (fun e => .inl (by omega)) .inr, fun h => h.elim (fun e => .inl (by omega)) .inr⟩
theorem pts_len {n : Nat} {xs : List Nat} (nd : xs.Nodup) (h : ∀ x ∈ xs, x < n) : xs.length ≤ n := by
  have := sub_len xs (List.range n) nd fun x hx => List.mem_range.mpr (h x hx)
  rwa [List.length_range] at this
/-- a ring without a chord, by its neighbours and the others -/
theorem lo_iff {T : Tm} (sy : ∀ i j, T i j = T j i) {xs : List Nat} (h4 : 4 ≤ xs.length) : loB T xs = true ↔ ringB T xs = true ∧ ∀ i j, i + 2 ≤ j → j < xs.length → (0 < i ∨ j < xs.length - 1) → T (xs.getD i 0) (xs.getD j 0) = false := by
  have hl : xs.getLast? = some (xs.getD (xs.length - 1) 0) := by
    rw [List.getLast?_eq_getElem?, List.getD_eq_getElem?_getD, List.getElem?_eq_getElem (by omega)]
    rfl
  unfold loB ringB
  rw [List.all_eq_true, List.all_eq_true]
  constructor
  · intro h
    have h : ∀ i j, i < j → j < xs.length → T (xs.getD i 0) (xs.getD j 0) = (decide (j = i + 1) || (decide (i = 0) && decide (j = xs.length - 1))) := fun i j hij hj => eq_of_beq (h (i, j) (mem_allPairs.mpr ⟨hij, hj⟩))
    refine ⟨fun k hk => ?_, fun i j hij hj ho => ?_⟩
    · have hk := List.mem_range.mp hk
      cases k with
      | zero =>
        rw [prv_zero hl, sy, h 0 (xs.length - 1) (by omega) (by omega)]
        simp
      | succ k =>
        rw [prv_succ hk, h k (k + 1) (by omega) hk]
        simp
    · rw [h i j (by omega) hj, decide_eq_false (show ¬ j = i + 1 by omega), Bool.false_or]
      by_cases e : i = 0
      · rw [decide_eq_false (show ¬ j = xs.length - 1 by omega), Bool.and_false]
      · rw [decide_eq_false e, Bool.false_and]
  · rintro ⟨h1, h2⟩ ⟨i, j⟩ hp
    obtain ⟨hij, hj⟩ := mem_allPairs.mp hp
    dsimp only at hij hj ⊢
    rw [beq_iff_eq]
    by_cases e1 : j = i + 1
    · subst e1
      have := h1 (i + 1) (List.mem_range.mpr hj)
      rw [prv_succ hj] at this
      rw [this]
      simp
    · rw [decide_eq_false e1, Bool.false_or]
      by_cases e2 : i = 0 ∧ j = xs.length - 1
      · obtain ⟨rfl, rfl⟩ := e2
        have := h1 0 (List.mem_range.mpr (by omega))
        rw [prv_zero hl, sy] at this
        rw [this]
        simp
      · rw [h2 i j (by omega) hj (by omega)]
        by_cases e3 : i = 0
        · rw [decide_eq_false (show ¬ j = xs.length - 1 by omega), Bool.and_false]
        · rw [decide_eq_false e3, Bool.false_and]
theorem ringD_F {n : Nat} {T : Tm} (d : PyData) : ringD n T d = ptsF n (fun xs => decide (3 ≤ xs.length) && ringB T xs) d := by
  cases d with
  | tuple ds =>
    unfold ringD ptsF
    dsimp only
    cases ptsOf n ds with
    | none => rfl
    | some xs => dsimp only; rw [Bool.and_assoc]
  | _ => rfl
theorem ptsF_true {n : Nat} {F : List Nat → Bool} {d : PyData} (h : ptsF n F d = true) : ∃ xs : List Nat, d = .tuple (xs.map fun x : Nat => PyData.int (x : Int)) ∧ (∀ x ∈ xs, x < n) ∧ xs.Nodup ∧ F xs = true ∧ ∀ G, ptsF n G d = G xs := by
  cases c : arePtsD n d with
  | false => rw [ptsF_no c] at h; cases h
  | true =>
    obtain ⟨xs, e, h1, h2, h3⟩ := ptsF_yes c
    exact ⟨xs, e, h1, h2, (h3 F).symm.trans h, h3⟩
theorem ptsF_and {n : Nat} {F G : List Nat → Bool} {d : PyData} (hFG : ∀ xs, F xs = false → G xs = false) (h : ptsF n F d = false) : ptsF n G d = false := by
  cases c : arePtsD n d with
  | false => exact ptsF_no c
  | true =>
    obtain ⟨xs, e, h1, h2, h3⟩ := ptsF_yes c
    rw [h3] at h ⊢
    exact hFG _ h
def sp_longD (K : PySem.W.Frag) : Sp := fun vs H Q _ => ∃ (nv v : V) (m : Addr) (rows : List Addr) (n : Nat) (ties : List (Nat × Nat)) (d : PyData), vs = [nv, .ref m, v] ∧ Net H nv n ties ∧ Mat H m rows n (tieT ties) ∧ n ≤ 40 ∧ Dp K H v d ∧ lenD d ∧ ∀ H', Same H H' → Q (.bl (longD n (tieT ties) d)) H'
theorem cal_is_long_ring (A : At K mg "is_long_ring" s_is_long_ring) (B : Bi mg) (c_is_ring : Cal P w K mg base 4 "is_ring" (sp_is_ring K)) : Cal P w K mg base 5 "is_long_ring" (sp_longD K) := by
  have nd := sc_is_long_ring.nd
  refine A.cal sc_is_long_ring (fun _ _ _ _ _ _ us hl => match us, hl with | [_, _, _], _ => rfl) ?_ fun f cdv A' outer s H vs Q E hr h => ⟨_, (pss_cons (ps_if (PW.pt (pw_or (pt_not (pt_val (pe_cal c_is_ring hr (by first | decide | omega) (by rfl) passE (pa_cons (pv 0) (pa_cons (pv 1) (pa_cons (pv 2) pa_nil)))))) (pw_or1 (pt_cmpR op_lt (pe_callB (call_lenK (K := K) rfl) (by rfl) B.len (by decide +kernel) (pa_cons (pv 2) pa_nil)) pe_int (nomark _))))) (pss_one (ps_ret pe_bl)) pss_nil)
  (pss_cons (ps_for passOwn rfl (pi_range1 (by rfl) B.range (pa_cons (pe_callB (call_lenK (K := K) rfl) (by rfl) B.len (by decide +kernel) (pa_cons (pv 2) pa_nil)) pa_nil)) (pg_name (i := 3) nd rfl (.inl rfl)) (pss_one (ps_for passOwn rfl (pi_range2 (by rfl) B.range (pa_cons (pe_op op_add (pv 3) pe_int) (pa_cons (pe_callB (call_lenK (K := K) rfl) (by rfl) B.len (by decide +kernel) (pa_cons (pv 2) pa_nil)) pa_nil))) (pg_name (i := 4) nd rfl (.inl rfl)) (pss_one (ps_if (PW.pt (pw_and (pt_val (pe_ix (ix_listK (K := K) rfl) (pe_ix (ix_listK (K := K) rfl) (pv 1) (pe_ix (ix_tupK (K := K) rfl) (pv 2) (pv 3) (fun _ _ => rfl)) (fun _ _ => rfl)) (pe_ix (ix_tupK (K := K) rfl) (pv 2) (pv 4) (fun _ _ => rfl)) (fun _ _ => rfl))) (pw_and1 (PW.pt (pw_or (pt_cmpR op_gt (pv 3) pe_int (nomark _)) (pw_or1 (pt_cmpR op_lt (pv 4) (pe_op op_sub (pe_callB (call_lenK (K := K) rfl) (by rfl) B.len (by decide +kernel) (pa_cons (pv 2) pa_nil)) pe_int) (nomark _)))))))) (pss_one (ps_ret pe_bl)) pss_nil)))))
  (pss_one (ps_ret pe_bl)))), ?_⟩
  · rintro vs H Q E ⟨nv, v, m, rows, n, ties, d, rfl, _⟩
    rfl
  · obtain ⟨nv, v, m, rows, n, ties, d, rfl, hN, hM, hn, hd, hl, q⟩ := h
    refine ⟨_, rfl, _, rfl, _, rfl, nv, v, n, ties, m, rows, tieT ties, d, rfl, hN, hM, hd, hl, fun H1 s1 => ⟨_, rfl, ifN (fun c => ?_) (fun c => ?_)⟩⟩
    · rw [ringD_F] at c
      have e : longD n (tieT ties) d = false := ptsF_and (fun xs hx => by
        by_cases h4 : 4 ≤ xs.length
        · rw [decide_eq_true h4, Bool.true_and]
          refine Bool.eq_false_iff.mpr fun h => ?_
          rw [((lo_iff (tieT_sym ties) h4).mp h).1, decide_eq_true (show 3 ≤ xs.length by omega)] at hx
          cases hx
        · rw [decide_eq_false h4, Bool.false_and]) c
      rw [e] at q
      exact q _ s1
    · rw [ringD_F] at c
      obtain ⟨xs, rfl, hlt, ndx, hx, e⟩ := ptsF_true c
      unfold longD at q
      rw [e] at q
      obtain ⟨a, rfl, hs⟩ := dp_ptsT hd
      have hs1 := sqT_same s1 hs
      have hM1 := hM.same s1
      have lx := pts_len ndx hlt
      refine ⟨_, rfl, _, _, rfl, .inr ⟨_, hs1, rfl⟩, _, _, rfl, rfl, _, rfl, ifD (fun c2 => ?_) (fun c2 => ?_)⟩
      · rw [List.length_map] at c2
        rw [decide_eq_false (show ¬ 4 ≤ xs.length by omega), Bool.false_and] at q
        exact q _ s1
      rw [List.length_map] at c2
      have h4 : 4 ≤ xs.length := by omega
      rw [decide_eq_true h4, Bool.true_and] at q
      refine ⟨_, rfl, _, _, rfl, .inr ⟨_, hs1, rfl⟩, _, rfl, by rw [List.length_map]; omega, by rw [List.length_map]; omega, ?_⟩
      refine for_range (lo := 0) (n := ((((xs.map pI).length : Nat) : Int)).toNat) (fun i σ H2 => ∃ v3 v4, σ = [some nv, some (.ref m), some (.ref a), v3, v4] ∧ H2 = H1 ∧ ∀ i' j, i' < i → i' + 2 ≤ j → j < xs.length → (0 < i' ∨ j < xs.length - 1) → tieT ties (xs.getD i' 0) (xs.getD j 0) = false) ⟨none, none, rfl, rfl, fun i' j h => by omega⟩ ?_ ?_
      · rintro i σ H2 hi ⟨v3, v4, rfl, rfl, ok⟩
        rw [List.length_map] at hi
        have hi : i < xs.length := by omega
        rw [Int.zero_add]
        refine ⟨_, rfl, _, _, rfl, rfl, _, rfl, _, _, rfl, .inr ⟨_, hs1, rfl⟩, _, _, rfl, ⟨by omega, by omega, by rw [List.length_map]; omega, by rw [List.length_map]; omega⟩, ?_⟩
        refine for_range (lo := (i : Int) + 2) (n := ((((xs.map pI).length : Nat) : Int) - ((i : Int) + 2)).toNat) (fun k σ H3 => ∃ v4, σ = [some nv, some (.ref m), some (.ref a), some (pI i), v4] ∧ H3 = H2 ∧ ∀ j, i + 2 ≤ j → j < i + 2 + k → j < xs.length → (0 < i ∨ j < xs.length - 1) → tieT ties (xs.getD i 0) (xs.getD j 0) = false) ⟨v4, rfl, rfl, fun j h1 h2 => by omega⟩ ?_ ?_
        · rintro k σ H3 hk ⟨v4, rfl, rfl, ok2⟩
          rw [List.length_map] at hk
          have hj : i + 2 + k < xs.length := by omega
          rw [show (i : Int) + 2 + (k : Int) = ((i + 2 + k : Nat) : Int) by omega]
          refine rdMx hM1 rfl (hlt _ (getD_mem hi)) (hlt _ (getD_mem hj)) (fun Q h => ⟨_, rfl, _, rfl, _, _, _, _, rfl, rfl, hs1, atI_getD hi, h⟩) (fun Q h => ⟨_, rfl, _, rfl, _, _, _, _, rfl, rfl, hs1, atI_getD hj, h⟩) ⟨_, rfl, ?_⟩
          have nxt : ((0 < i ∨ i + 2 + k < xs.length - 1) → tieT ties (xs.getD i 0) (xs.getD (i + 2 + k) 0) = false) → ∃ v4, [some nv, some (V.ref m), some (.ref a), some (pI i), some (.int ((i + 2 + k : Nat) : Int))] = [some nv, some (V.ref m), some (.ref a), some (pI i), v4] ∧ H3 = H3 ∧ ∀ j, i + 2 ≤ j → j < i + 2 + (k + 1) → j < xs.length → (0 < i ∨ j < xs.length - 1) → tieT ties (xs.getD i 0) (xs.getD j 0) = false := fun h => by
            refine ⟨_, rfl, rfl, fun j h1 h2 h3 h5 => ?_⟩
            by_cases e : j = i + 2 + k
            · rw [e]; exact h (by rw [← e]; exact h5)
            · exact ok2 j h1 (by omega) h3 h5
          have bad : tieT ties (xs.getD i 0) (xs.getD (i + 2 + k) 0) = true → (0 < i ∨ i + 2 + k < xs.length - 1) → loB (tieT ties) xs = false := fun h1 h2 => Bool.eq_false_iff.mpr fun h => by
            rw [((lo_iff (tieT_sym ties) h4).mp h).2 i (i + 2 + k) (by omega) hj h2] at h1
            cases h1
          refine ifB (fun c3 => ?_) (fun c3 => ?_)
          · refine ⟨_, rfl, _, _, rfl, rfl, _, rfl, ifD (fun c4 => ?_) (fun c4 => ?_)⟩
            · refine iteT ?_
              rw [bad c3 (.inl (by omega))] at q
              exact q _ s1
            · refine ⟨_, rfl, _, rfl, _, _, rfl, .inr ⟨_, hs1, rfl⟩, _, _, rfl, rfl, _, _, rfl, rfl, _, rfl, ifD (fun c5 => ?_) (fun c5 => ?_)⟩
              · rw [List.length_map] at c5
                rw [bad c3 (.inr (by omega))] at q
                exact q _ s1
              · rw [List.length_map] at c5
                exact nxt fun h => by omega
          · exact nxt fun _ => c3
        · rintro σ H3 ⟨v4, rfl, rfl, ok2⟩
          rw [List.length_map] at ok2
          refine ⟨_, _, rfl, rfl, fun i' j h1 h2 h3 h5 => ?_⟩
          by_cases e : i' = i
          · subst e
            exact ok2 j h2 (by omega) h3 h5
          · exact ok i' j (by omega) h2 h3 h5
      · rintro σ H2 ⟨v3, v4, rfl, rfl, ok⟩
        rw [List.length_map] at ok
        have hxr := (Bool.and_eq_true_iff.mp hx).2
        rw [(lo_iff (tieT_sym ties) h4).mpr ⟨hxr, fun i j h1 h2 h3 => ok i j (by omega) h1 h2 h3⟩] at q
        exact q _ s1
theorem ptsOf_castJ {n : Nat} : ∀ {R : List Nat}, (∀ x ∈ R, x < n) → ptsOf n (R.map fun x : Nat => PyData.int (x : Int)) = some R
  | [], _ => rfl
  | x :: r, h => by
    rw [List.map_cons]
    unfold ptsOf
    rw [ptsOf_castJ fun y hy => h y (List.mem_cons_of_mem _ hy)]
    have hx := h x (List.mem_cons_self ..)
    unfold ptOf
    dsimp only
    rw [if_pos ⟨by omega, by omega⟩, Int.toNat_natCast]
theorem tup2 {d : PyData} (h : isTupD d 2 = true) : ∃ e0 e1, d = .tuple [e0, e1] := by
  cases d with
  | tuple ds =>
    have h : (ds.length : Int) = 2 := of_decide_eq_true h
    match ds, h with
    | [a, b], _ => exact ⟨a, b, rfl⟩
    | [], h => exact absurd h (by decide)
    | [a], h => exact absurd h (by rw [List.length_cons, List.length_nil]; decide)
    | a :: b :: c :: r, h => exact absurd h (by simp only [List.length_cons]; omega)
  | _ => cases h
theorem cut_midJ {t u : TS} {D : Ends} {σ : L2.St} {H : Hp} (M : L2.St → Hp → Prop) (h : t { D with nx := M } σ H) (g : ∀ σ' H', M σ' H' → u D σ' H') : C8.tCut t u D σ H := ⟨M, h, g⟩
end
end Ns
/-! Own layer, plain: long rings as data. -/
namespace Ns
open PySem PySem.Spec PyProof.Rows L2
theorem getD_at {R : List Nat} {j : Nat} (hj : j < R.length) : R[j]? = some (R.getD j 0) := by rw [List.getD_eq_getElem?_getD, List.getElem?_eq_getElem hj]; rfl
theorem last_at {R : List Nat} (h : 0 < R.length) : R.getLast? = some (R.getD (R.length - 1) 0) := by rw [List.getLast?_eq_getElem?]; exact getD_at (by omega)
theorem loB_of {n : Nat} {T : Tm} {R : List Nat} (r : LongRing n T R) (sy : ∀ i j, T i j = T j i) : loB T R = true := by
  have h4 := r.four
  rw [lo_iff sy h4]
  refine ⟨?_, fun i j hij hj ho => r.bare i j _ _ (getD_at (by omega)) (getD_at hj) hij (by omega)⟩
  unfold ringB
  rw [List.all_eq_true]
  intro k hk
  have hk := List.mem_range.mp hk
  cases k with
  | zero =>
    have hl := last_at (R := R) (by omega)
    rw [prv_zero hl]
    exact r.last _ _ hl (getD_at hk)
  | succ k =>
    rw [prv_succ hk]
    exact r.tie k _ _ (getD_at (by omega)) (getD_at hk)
theorem longD_of {n : Nat} {T : Tm} {R : List Nat} (r : LongRing n T R) (sy : ∀ i j, T i j = T j i) : longD n T (.tuple (R.map fun x : Nat => PyData.int (x : Int))) = true := by
  unfold longD
  rw [ptsF_all (ptsOf_castJ r.lt), decide_eq_true r.nd, decide_eq_true r.four, loB_of r sy]
  rfl
end Ns
/-! Own layer: names of are_pairs. -/
/-! Own layer: pairs of whole numbers as data; are_pairs of any data. -/
namespace Ns
open PySem PySem.Spec PyProof.Rows L2
def pairZ (p : Int × Int) : PyData := .tuple [.int p.1, .int p.2]
end Ns
/-! Own layer, plain: stories and places of stretches, as data. -/
namespace Ns
open PySem PySem.Spec PyProof.Rows L2
def rowD (W : List Nat) : PyData := .tuple (W.map fun x : Nat => PyData.int (x : Int))
theorem rowD_inj : ∀ {W W' : List Nat}, rowD W = rowD W' → W = W'
  | [], [], _ => rfl
  | [], _ :: _, h => by cases h
  | _ :: _, [], h => by cases h
  | a :: r, b :: r', h => by
    have h := PyData.tuple.inj h
    rw [List.map_cons, List.map_cons, List.cons.injEq, PyData.int.injEq] at h
    rw [rowD_inj (congrArg PyData.tuple h.2), show a = b by omega]
/-- a way from a to b off c -/
structure WayR (n : Nat) (T : Tm) (a b c : Nat) (W : List Nat) : Prop where
  nd : W.Nodup
  lt : ∀ x ∈ W, x < n
  first : W[0]? = some a
  last : W.getLast? = some b
  tie : ∀ k x y, W[k]? = some x → W[k + 1]? = some y → T x y = true
  off : ∀ x ∈ W, x ≠ c ∧ T x c = false
def StoryS (n : Nat) (T : Tm) (R : List (Int × Int)) : Prop := R.length = n ∧ (∀ p ∈ R, p.1 ≤ p.2) ∧ ∀ a b p q, a < b → R[a]? = some p → R[b]? = some q → (T a b = true ↔ p.1 ≤ q.2 ∧ q.1 ≤ p.2)
def StrD (n : Nat) (T : Tm) (d : PyData) : Prop := ∃ R : List (Int × Int), d = .tuple (R.map pairZ) ∧ StoryS n T R
def ThreeD (n : Nat) (T : Tm) (d : PyData) : Prop := ∃ (a b c : Nat) (W1 W2 W3 : List Nat), d = .tuple [.str "three", .int (a : Int), .int (b : Int), .int (c : Int), rowD W1, rowD W2, rowD W3] ∧ a < n ∧ b < n ∧ c < n ∧ a ≠ b ∧ a ≠ c ∧ b ≠ c ∧ WayR n T a b c W1 ∧ WayR n T a c b W2 ∧ WayR n T b c a W3
def BentD (n : Nat) (T : Tm) (d : PyData) : Prop := (∃ e, d = .tuple [.str "ring", e] ∧ longD n T e = true) ∨ ThreeD n T d
/-- what off tells of the points that are shut -/
theorem off_shut {T : Tm} {c x : Nat} (sy : ∀ i j, T i j = T j i) : (decide (x = c) || T c x) = false ↔ x ≠ c ∧ T x c = false := by
  rw [Bool.or_eq_false_iff, decide_eq_false_iff_not, sy]
theorem off_cn {n : Nat} {T : Tm} {c x y : Nat} (h : Off T (· < n) c x y) : Cn T (fun u => u < n ∧ u ≠ c ∧ T u c = false) x y := by
  induction h with
  | refl a b d => exact .refl ⟨a, b, d⟩
  | step _ t b d e ih => exact .step ih t ⟨b, d, e⟩
/-- the way that is told is right -/
theorem wayR_of {n : Nat} {T : Tm} (sy : ∀ i j, T i j = T j i) {a b c : Nat} {S : List Ent} (B : Bfs n T (fun x => decide (x = c) || T c x) a S) (oa : a ≠ c ∧ T a c = false) {R : List Nat} (h : TrR S (b :: R)) : WayR n T a b c (b :: R).reverse := by
  obtain ⟨w, w0⟩ := tr_way B.toBfsW h
  have nd := tr_nodup B.nd h
  refine ⟨((List.reverse_perm _).nodup_iff).mpr nd, w.lt, w0, by rw [List.getLast?_reverse]; rfl, fun k x y hx hy => (w.tie k x y hx hy).1, fun x hx => ?_⟩
  obtain ⟨k, hk⟩ := List.getElem?_of_mem hx
  cases k with
  | zero =>
    rw [w0] at hk
    rw [← Option.some.inj hk]
    exact oa
  | succ k =>
    have hl := (List.getElem?_eq_some_iff.mp hk).1
    exact (off_shut sy).mp (w.tie k _ x (List.getElem?_eq_getElem (by omega)) hk).2
end Ns
/-! Own layer Co: small lemmas that many texts want. -/
namespace Ns
open PySem PySem.Spec PyProof.Rows L2
theorem rgV_C (n : Nat) : rgV 0 (n : Int) = (List.range n).map pI := by
  unfold rgV
  rw [show ((n : Int) - 0).toNat = n by omega]
  exact List.map_congr_left fun i _ => congrArg V.int (Int.zero_add _)
section
variable {α β : Type} {g : TG} {tt : TT} {te : TE} {vs : List Nat} {σ : L2.St} {H1 : Hp} {D : Addr} {Qd : Hp → Prop}
/-- over a tuple of data -/
theorem comp_sqt {K : PySem.W.Frag} {a : Addr} {us : List V} {ds : List α} {Rs : Hp → V → α → Prop} (hRs : PersT Rs) (f : α → Option β) {R : Hp → V → β → Prop} (hR : PersT R) (hD : H1 D = none)
    (hl : SqT K H1 a us) (hn : us.length < sizeLine) (hp : Paired (Rs H1) us ds)
    (hs : ∀ (d : α) (x : V) (H : Hp) (Yes : V → Hp → Prop) (No : Hp → Prop), d ∈ ds → Rs H x d → Same H1 H → (∀ a, f d = some a → ∀ y H4, Same H H4 → R H4 y a → Yes y H4) → (f d = none → ∀ H4, Same H H4 → No H4) →
      g x (wipe σ vs) H fun σ2 H2 => wipe σ2 vs = wipe σ vs ∧ tt σ2 H2 fun b H3 => if b = true then te σ2 H3 Yes else No H3)
    (hd : ∀ H ys, Same H1 H → H D = some (.lst ys) → Paired (R H) ys (ds.filterMap f) → Qd H) :
    ∃ W : Nat → Nat → Hp → Prop, (∃ m, W 0 m (upd H1 D (.lst []))) ∧ ∀ i m H, W i m H →
      ((Itt K a).stop i H ∧ Qd H) ∨ ((Itt K a).go i H ∧ ∃ Nx : Hp → Prop, (∀ H', Nx H' → ∃ m', m' < m ∧ W (i + 1) m' H') ∧ ∀ x H', (Itt K a).yld i H x H' → g x (wipe σ vs) H' fun σ2 H2 => wipe σ2 vs = wipe σ vs ∧ tt σ2 H2 fun b H3 =>
        if b = true then te σ2 H3 fun y H4 => ∃ acc, H4 D = some (.lst acc) ∧ acc.length < sizeLine ∧ Nx (upd H4 D (.lst (acc ++ [y]))) else Nx H3) := by
  have hlen := hp.length
  refine lc_tup (K := K) (a := a) (xs := us) (fun i H => Same H1 H ∧ ∃ ys, H D = some (.lst ys) ∧ Paired (R H) ys ((ds.take i).filterMap f)) ⟨same_laid hD, [], upd_same, by simpa using Paired.nil⟩ (fun i H _ p => sqT_same p.1 hl) ?_ ?_
  · rintro i x H hi ⟨sm, ys, hy, pr⟩
    obtain ⟨d, hat, hrs⟩ := pAtL hp hi
    have hll : ys.length < sizeLine := by
      have := pr.length
      have h2 := List.length_filterMap_le f (ds.take i)
      have h3 : (ds.take i).length ≤ ds.length := by rw [List.length_take]; omega
      omega
    refine hs d x H _ _ (List.mem_of_getElem? hat) (hRs _ _ _ _ (sKt sm) hrs) sm (fun a ha y H4 s4 r4 => ?_) (fun ha H4 s4 => ?_)
    · refine ⟨ys, s4 _ _ hy, hll, sPut (sm.trans s4) hD, ys ++ [y], upd_same, ?_⟩
      rw [filterMap_take_succ hat, ha]
      have k : KeepT H4 (upd H4 D (.lst (ys ++ [y]))) := KeepT.lst (s4 _ _ hy)
      exact pApp (pMono hR (KeepT.trans (sKt s4) k) pr) (.cons (hR _ _ _ _ k r4) .nil)
    · refine ⟨sm.trans s4, ys, s4 _ _ hy, ?_⟩
      rw [filterMap_take_succ hat, ha]
      simpa using pMono hR (sKt s4) pr
  · rintro H ⟨sm, ys, hy, pr⟩
    rw [hlen, List.take_of_length_le (Nat.le_refl _)] at pr
    exact hd H ys sm hy pr
theorem pairPtC (H : Hp) : ∀ xs : List Nat, Paired (Pt H) (xs.map pI) xs
  | [] => .nil
  | _ :: xs => .cons rfl (pairPtC H xs)
end
end Ns
/-! Own layer: the judge's looks at ways, of any data. -/
namespace Ns
open PySem PySem.Spec PyProof.Rows L2
local macro_rules | `(tactic| walk_at "look") => `(tactic| first | assumption | exact upd_same | (refine (upd_ne (by first | assumption | exact Ne.symm (by assumption))).trans ?_; walk_at "look"))
local macro_rules | `(tactic| walk_at "cond") => `(tactic| first | assumption | omega | (dsimp only; omega) | exact ⟨by omega, by omega⟩ | decide | exact ⟨by decide, by decide, by decide⟩ | exact .inr ⟨by decide, by decide⟩ | exact .inl ⟨by decide, by decide⟩ | exact .inr ⟨by omega, by omega⟩ | exact .inl ⟨by omega, by omega⟩)
local macro_rules | `(tactic| walk_at "rd1") => `(tactic| first
  | refine ⟨_, rfl, ?_⟩
  | refine ⟨_, _, rfl, rfl, ?_⟩
  | refine ⟨rfl, ?_⟩
  | refine ⟨_, _, rfl, rfl, (by walk_at "cond"), ?_⟩
  | refine ⟨_, _, _, _, rfl, rfl, SqL.of (by walk_at "look"), rfl, ?_⟩
  | refine ⟨_, _, _, _, rfl, rfl, SqT.of (by walk_at "look"), rfl, ?_⟩
  | refine ⟨_, _, _, _, rfl, rfl, (by walk_at "look"), rfl, ?_⟩
  | refine .inl ⟨_, rfl, ?_⟩
  | refine ⟨.inl ⟨rfl, _, SqL.of (by walk_at "look")⟩, ?_⟩
  | refine ⟨_, _, rfl, ⟨by omega, by omega, by omega, by omega⟩, ?_⟩
  | refine ⟨_, rfl, (by omega), (by omega), ?_⟩
  | refine And.intro (by walk_at "cond") ?_)
local macro_rules | `(tactic| walk_at "rd") => `(tactic| repeat (walk_at "rd1"))
abbrev N_is_way : List Str := ["net", "tied", "x", "a", "b", "k"]
theorem sc_is_way : FnScope N_is_way ["net", "tied", "x", "a", "b"] (defScope s_is_way) := ⟨rfl, rfl, rfl, by decide +kernel, rfl, by decide +kernel, by decide +kernel⟩
abbrev N_is_way_off : List Str := ["net", "tied", "x", "a", "b", "c", "y"]
theorem sc_is_way_off : FnScope N_is_way_off ["net", "tied", "x", "a", "b", "c"] (defScope s_is_way_off) := ⟨rfl, rfl, rfl, by decide +kernel, rfl, by decide +kernel, by decide +kernel⟩
section
variable {P : Program} {w : World} {K : PySem.W.Frag} {mg : Str → Option Value} {base : Heap}
structure WayA (n : Nat) (T : Tm) (a b : Nat) (W : List Nat) : Prop where
  nd : W.Nodup
  lt : ∀ x ∈ W, x < n
  first : W[0]? = some a
  last : W.getLast? = some b
  tie : ∀ k x y, W[k]? = some x → W[k + 1]? = some y → T x y = true
theorem wayR_iff {n : Nat} {T : Tm} {a b c : Nat} {W : List Nat} : WayR n T a b c W ↔ WayA n T a b W ∧ ∀ x ∈ W, x ≠ c ∧ T x c = false :=
  ⟨fun h => ⟨⟨h.nd, h.lt, h.first, h.last, h.tie⟩, h.off⟩, fun ⟨h, o⟩ => ⟨h.nd, h.lt, h.first, h.last, h.tie, o⟩⟩
theorem row_pts {n : Nat} {W : List Nat} (h : ∀ x ∈ W, x < n) (nd : W.Nodup) : arePtsD n (rowD W) = true := by
  unfold arePtsD rowD
  dsimp only
  rw [ptsOf_castJ h]
  exact decide_eq_true nd
theorem all_steps {T : Tm} {W : List Nat} : ((List.range (W.length - 1)).all fun k => T (W.getD k 0) (W.getD (k + 1) 0)) = true ↔ ∀ k x y, W[k]? = some x → W[k + 1]? = some y → T x y = true := by
  have gd : ∀ {k x : Nat}, W[k]? = some x → W.getD k 0 = x := fun {k x} h => by rw [List.getD_eq_getElem?_getD, h]; rfl
  rw [List.all_eq_true]
  constructor
  · intro h k x y hx hy
    have hl := (List.getElem?_eq_some_iff.mp hy).1
    have := h k (List.mem_range.mpr (by omega))
    rwa [gd hx, gd hy] at this
  · intro h k hk
    have hk := List.mem_range.mp hk
    have h1 : W[k]? = some (W.getD k 0) := by rw [List.getD_eq_getElem?_getD, List.getElem?_eq_getElem (show k < W.length by omega)]; rfl
    have h2 : W[k + 1]? = some (W.getD (k + 1) 0) := by rw [List.getD_eq_getElem?_getD, List.getElem?_eq_getElem (show k + 1 < W.length by omega)]; rfl
    exact h k _ _ h1 h2
def sp_is_way (K : PySem.W.Frag) : Sp := fun vs H Q _ => ∃ (nv v : V) (m : Addr) (rows : List Addr) (n a b : Nat) (ties : List (Nat × Nat)) (d : PyData), vs = [nv, .ref m, v, pI a, pI b] ∧ Net H nv n ties ∧ Mat H m rows n (tieT ties) ∧ n ≤ 40 ∧ Dp K H v d ∧ lenD d ∧ ∀ (ans : Bool) H', Same H H' → (ans = true ↔ ∃ W, d = rowD W ∧ WayA n (tieT ties) a b W) → Q (.bl ans) H'
theorem cal_is_way (A : At K mg "is_way" s_is_way) (B : Bi mg) (c_are_points : Cal P w K mg base 3 "are_points" (sp_are_points K)) : Cal P w K mg base 4 "is_way" (sp_is_way K) := by
  have nd := sc_is_way.nd
  refine A.cal sc_is_way (fun _ _ _ _ _ _ us hl => match us, hl with | [_, _, _, _, _], _ => rfl) ?_ fun f cdv A' outer s H vs Q E hr h => ⟨_, (pss_cons (ps_if (PW.pt (pw_or (pt_not (pt_val (pe_cal c_are_points hr (by first | decide | omega) (by rfl) passE (pa_cons (pv 0) (pa_cons (pv 2) pa_nil))))) (pw_or (pt_cmpR op_eq (pe_callB (call_lenK (K := K) rfl) (by rfl) B.len (by decide +kernel) (pa_cons (pv 2) pa_nil)) pe_int (nomark _)) (pw_or (pt_cmpR op_ne (pe_ix (ix_tupK (K := K) rfl) (pv 2) pe_int (fun _ _ => rfl)) (pv 3) (nomark _)) (pw_or1 (pt_cmpR op_ne (pe_ix (ix_tupK (K := K) rfl) (pv 2) (pe_un un_neg pe_int) (fun _ _ => rfl)) (pv 4) (nomark _))))))) (pss_one (ps_ret pe_bl)) pss_nil)
  (pss_one (ps_ret (pe_callB (cr_all rfl) (by rfl) B.all (by decide +kernel) (pa_cons (pe_lc (own := [("k", 5)]) rfl nd (pi_range1 (by rfl) B.range (pa_cons (pe_op op_sub (pe_callB (call_lenK (K := K) rfl) (by rfl) B.len (by decide +kernel) (pa_cons (pv 2) pa_nil)) pe_int) pa_nil)) (blkOk_by (own := [("k", 5)]) (N := N_is_way) (sc := defScope s_is_way) (by decide +kernel)) (fun _ _ _ _ _ => (pg_name (i := 5) nd rfl (.inl rfl) (.inr rfl))) (fun _ _ _ _ _ => pts_nil) (fun _ _ _ _ _ => (pe_ix (ix_listK (K := K) rfl) (pe_ix (ix_listK (K := K) rfl) (pv 1) (pe_ix (ix_tupK (K := K) rfl) (pv 2) (pv 5) (fun _ _ => rfl)) (fun _ _ => rfl)) (pe_ix (ix_tupK (K := K) rfl) (pv 2) (pe_op op_add (pv 5) pe_int) (fun _ _ => rfl)) (fun _ _ => rfl)))) pa_nil))))), ?_⟩
  · rintro vs H Q E ⟨nv, v, m, rows, n, a, b, ties, d, rfl, _⟩
    rfl
  · obtain ⟨nv, v, m, rows, n, a, b, ties, d, rfl, hN, hM, hn, hd, hl, q⟩ := h
    refine ⟨_, rfl, _, rfl, nv, v, n, ties, d, rfl, hN, hd, hl, _, rfl, ifN (fun c => ?_) (fun c => ?_)⟩
    · refine q false _ (Same.refl H) (iff_of_false Bool.false_ne_true ?_)
      rintro ⟨W, rfl, h⟩
      rw [row_pts h.lt h.nd] at c
      cases c
    · obtain ⟨W, rfl, hlt, ndW, _⟩ := ptsF_yes c
      obtain ⟨p, rfl, hs⟩ := dp_ptsT hd
      have q2 : ∀ (ans : Bool) H', Same H H' → (ans = true ↔ WayA n (tieT ties) a b W) → Q (.bl ans) H' := fun ans H' s' h => q ans H' s' (h.trans ⟨fun h => ⟨W, rfl, h⟩, fun ⟨W', e, h⟩ => by rw [rowD_inj (W := W) (W' := W') e]; exact h⟩)
      have no : ¬ WayA n (tieT ties) a b W → Q (.bl false) H := fun h => q2 false H (Same.refl H) (iff_of_false Bool.false_ne_true h)
      have lW : W.length ≤ n := pts_len ndW hlt
      have lm : (W.map pI).length = W.length := List.length_map _
      refine ⟨_, rfl, _, _, rfl, .inr ⟨_, hs, rfl⟩, rfl, _, rfl, ifI (fun c1 => no fun h => ?_) (fun c1 => ?_)⟩
      · have : W.length = 0 := by omega
        rw [List.length_eq_zero_iff.mp this] at h
        cases h.first
      have h0 : 0 < W.length := by omega
      refine ⟨_, rfl, _, _, _, _, rfl, rfl, hs, atI_getD (k := 0) h0, _, rfl, rfl, _, rfl, ifNI (fun c2 => no fun h => ?_) (fun c2 => ?_)⟩
      · have := h.first
        rw [List.getD_eq_getElem?_getD, this] at c2
        exact c2 rfl
      have e0 : W[0]? = some a := by
        rw [List.getD_eq_getElem?_getD, List.getElem?_eq_getElem h0] at c2
        rw [List.getElem?_eq_getElem h0]
        have c2 : ((W[0] : Nat) : Int) = a := c2
        congr 1
        omega
      obtain ⟨z, hz⟩ : ∃ z, W.getLast? = some z := by
        rw [List.getLast?_eq_getElem?, List.getElem?_eq_getElem (show W.length - 1 < W.length by omega)]
        exact ⟨_, rfl⟩
      refine ⟨_, rfl, _, rfl, _, _, _, _, rfl, rfl, hs, atI_end (x := pI z) (by rw [List.getLast?_map, hz]; rfl), _, rfl, rfl, _, rfl, ifNI (fun c3 => no fun h => ?_) (fun c3 => ?_)⟩
      · have := h.last
        rw [hz] at this
        exact c3 (congrArg (fun u : Option Nat => ((u.getD 0 : Nat) : Int)) this)
      have ez : W.getLast? = some b := by
        rw [hz]
        have c3 : ((z : Nat) : Int) = b := c3
        congr 1
        omega
      refine ⟨_, rfl, _, _, rfl, .inr ⟨_, hs, rfl⟩, _, _, rfl, rfl, _, rfl, by omega, by omega, fun D hD => ?_⟩
      refine comp_range (lo := 0) (n := ((((W.map pI).length : Nat) : Int) - 1).toNat) (sizeBig (by omega)) (fun k => some (tieT ties (W.getD k 0) (W.getD (k + 1) 0))) persPtB hD ?_ ?_
      · intro k H1 Yes No hk s1 yes no
        have hk1 : k < W.length := by omega
        have hk2 : k + 1 < W.length := by omega
        refine ⟨rfl, ?_⟩
        have hs1 := sqT_same s1 hs
        refine rdMx (hM.same s1) rfl (hlt _ (getD_mem hk1)) (hlt _ (getD_mem hk2)) (fun Q h => ⟨_, rfl, _, rfl, _, _, _, _, rfl, rfl, hs1, ?_, h⟩) (fun Q h => ⟨_, rfl, _, rfl, _, _, rfl, rfl, _, _, _, _, rfl, rfl, hs1, ?_, h⟩) ?_
        · rw [Int.zero_add]
          exact atI_getD hk1
        · rw [Int.zero_add]
          exact atI_getD (k := k + 1) hk2
        · exact yes _ rfl _ _ (Same.refl _) rfl
      · intro H1 ys s1 hy pr
        rw [fm_some] at pr
        have e := pairedB_eq pr
        subst e
        refine ⟨D, _, rfl, SqL.of hy, ?_⟩
        refine q2 _ _ s1 ?_
        have e : ((((W.map pI).length : Nat) : Int) - 1).toNat = W.length - 1 := by omega
        rw [e, List.all_map]
        have e2 : (id ∘ fun k => tieT ties (W.getD k 0) (W.getD (k + 1) 0)) = fun k => tieT ties (W.getD k 0) (W.getD (k + 1) 0) := rfl
        rw [e2, all_steps]
        exact ⟨fun h => ⟨ndW, hlt, e0, ez, h⟩, fun h => h.tie⟩
def sp_is_way_off (K : PySem.W.Frag) : Sp := fun vs H Q _ => ∃ (nv v : V) (m : Addr) (rows : List Addr) (n a b c : Nat) (ties : List (Nat × Nat)) (d : PyData), vs = [nv, .ref m, v, pI a, pI b, pI c] ∧ Net H nv n ties ∧ Mat H m rows n (tieT ties) ∧ n ≤ 40 ∧ c < n ∧ Dp K H v d ∧ lenD d ∧ ∀ (ans : Bool) H', Same H H' → (ans = true ↔ ∃ W, d = rowD W ∧ WayR n (tieT ties) a b c W) → Q (.bl ans) H'
theorem cal_is_way_off (A : At K mg "is_way_off" s_is_way_off) (B : Bi mg) (c_is_way : Cal P w K mg base 4 "is_way" (sp_is_way K)) : Cal P w K mg base 5 "is_way_off" (sp_is_way_off K) := by
  have nd := sc_is_way_off.nd
  refine A.cal sc_is_way_off (fun _ _ _ _ _ _ us hl => match us, hl with | [_, _, _, _, _, _], _ => rfl) ?_ fun f cdv A' outer s H vs Q E hr h => ⟨_, (pss_one (ps_ret (pe_and (pe_cal c_is_way hr (by first | decide | omega) (by rfl) passE (pa_cons (pv 0) (pa_cons (pv 1) (pa_cons (pv 2) (pa_cons (pv 3) (pa_cons (pv 4) pa_nil)))))) (pe_one (pe_callB (cr_all rfl) (by rfl) B.all (by decide +kernel) (pa_cons (pe_lc (own := [("y", 6)]) rfl nd (pi_tupK (K := K) rfl (pv 2)) (blkOk_by (own := [("y", 6)]) (N := N_is_way_off) (sc := defScope s_is_way_off) (by decide +kernel)) (fun _ _ _ _ _ => (pg_name (i := 6) nd rfl (.inl rfl) (.inr rfl))) (fun _ _ _ _ _ => pts_nil) (fun _ _ _ _ _ => (pe_and (pe_cmpR op_ne (pv 6) (pv 5) (nomark _)) (pe_one (pe_not (pe_ix (ix_listK (K := K) rfl) (pe_ix (ix_listK (K := K) rfl) (pv 1) (pv 6) (fun _ _ => rfl)) (pv 5) (fun _ _ => rfl))))))) pa_nil)))))), ?_⟩
  · rintro vs H Q E ⟨nv, v, m, rows, n, a, b, c, ties, d, rfl, _⟩
    rfl
  · obtain ⟨nv, v, m, rows, n, a, b, c, ties, d, rfl, hN, hM, hn, hc, hd, hl, q⟩ := h
    refine ⟨_, rfl, _, rfl, _, rfl, _, rfl, _, rfl, nv, v, m, rows, n, a, b, ties, d, rfl, hN, hM, hn, hd, hl, fun ans H1 s1 hans => ?_⟩
    refine ⟨_, rfl, ifB (fun c1 => ?_) (fun c1 => ?_)⟩
    · obtain ⟨W, rfl, hW⟩ := hans.mp c1
      obtain ⟨p, rfl, hs⟩ := dp_ptsT hd
      have hs1 := sqT_same s1 hs
      have lW : W.length ≤ n := pts_len hW.nd hW.lt
      refine ⟨_, rfl, p, rfl, ⟨_, hs1⟩, fun D hD => ?_⟩
      refine comp_sqt (K := K) (us := W.map pI) (ds := W) persPt (fun y => some (!decide (y = c) && !tieT ties y c)) persPtB hD hs1 (by rw [List.length_map]; exact sizeBig (by omega)) (pairPtC H1 W) ?_ ?_
      · rintro y x H2 Yes No hy rfl s2 yes no
        have hyn := hW.lt y hy
        refine ⟨rfl, ?_⟩
        unfold tYes
        dsimp only
        rw [if_pos rfl]
        refine ⟨_, rfl, _, rfl, rfl, _, rfl, ifNI (fun e => ?_) (fun e => ?_)⟩
        · have e : y ≠ c := fun k => e (by rw [k])
          refine rdM (hM.same (s1.trans s2)) rfl rfl rfl hyn hc ⟨_, rfl, yes _ rfl _ _ (Same.refl _) ?_⟩
          rw [decide_eq_false e]
          rfl
        · have e : y = c := by omega
          refine yes _ rfl _ _ (Same.refl _) ?_
          rw [decide_eq_true e]
          rfl
      · intro H2 ys s2 hy pr
        rw [fm_some] at pr
        have e := pairedB_eq pr
        subst e
        refine ⟨D, _, rfl, SqL.of hy, ?_⟩
        refine q _ _ (s1.trans s2) ?_
        rw [List.all_map, List.all_eq_true]
        constructor
        · intro h
          refine ⟨W, rfl, wayR_iff.mpr ⟨hW, fun x hx => ?_⟩⟩
          have := h x hx
          simp only [Function.comp, id, Bool.and_eq_true, Bool.not_eq_true', decide_eq_false_iff_not] at this
          exact this
        · rintro ⟨W', e, h⟩ x hx
          rw [← rowD_inj (W := W) (W' := W') e] at h
          have := h.off x hx
          simp only [Function.comp, id, Bool.and_eq_true, Bool.not_eq_true', decide_eq_false_iff_not]
          exact this
    · refine q false _ s1 (iff_of_false Bool.false_ne_true ?_)
      rintro ⟨W, rfl, h⟩
      have := hans.mpr ⟨W, rfl, (wayR_iff.mp h).1⟩
      rw [c1] at this
      cases this
end
end Ns
/-! Own layer: the judge's looks at stretches, of any data. -/
--CUT place_stretches
namespace Ns
open PySem PySem.Spec PyProof.Rows L2
local macro_rules | `(tactic| walk_at "look") => `(tactic| first | assumption | exact upd_same | (refine (upd_ne (by first | assumption | exact Ne.symm (by assumption))).trans ?_; walk_at "look"))
local macro_rules | `(tactic| walk_at "cond") => `(tactic| first | assumption | omega | (dsimp only; omega) | exact ⟨by omega, by omega⟩ | decide | exact ⟨by decide, by decide, by decide⟩ | exact .inr ⟨by decide, by decide⟩ | exact .inl ⟨by decide, by decide⟩ | exact .inr ⟨by omega, by omega⟩ | exact .inl ⟨by omega, by omega⟩)
local macro_rules | `(tactic| walk_at "rd1") => `(tactic| first
  | refine ⟨_, rfl, ?_⟩
  | refine ⟨_, _, rfl, rfl, ?_⟩
  | refine ⟨rfl, ?_⟩
  | refine ⟨_, _, rfl, rfl, (by walk_at "cond"), ?_⟩
  | refine ⟨_, _, _, _, rfl, rfl, SqL.of (by walk_at "look"), rfl, ?_⟩
  | refine ⟨_, _, _, _, rfl, rfl, SqT.of (by walk_at "look"), rfl, ?_⟩
  | refine ⟨_, _, _, _, rfl, rfl, (by walk_at "look"), rfl, ?_⟩
  | refine .inl ⟨_, rfl, ?_⟩
  | refine ⟨.inl ⟨rfl, _, SqL.of (by walk_at "look")⟩, ?_⟩
  | refine ⟨_, _, rfl, ⟨by omega, by omega, by omega, by omega⟩, ?_⟩
  | refine ⟨_, rfl, (by omega), (by omega), ?_⟩
  | refine And.intro (by walk_at "cond") ?_)
local macro_rules | `(tactic| walk_at "rd") => `(tactic| repeat (walk_at "rd1"))
abbrev N_place_stretches : List Str := ["net", "tied", "x", "a", "b", "c"]
theorem sc_place_stretches : FnScope N_place_stretches ["net", "tied", "x"] (defScope s_place_stretches) := ⟨rfl, rfl, rfl, by decide +kernel, rfl, by decide +kernel, by decide +kernel⟩
section
variable {P : Program} {w : World} {K : PySem.W.Frag} {mg : Str → Option Value} {base : Heap}
/-- its parts are no longer than can be looked at -/
def lenDs (d : PyData) : Prop := lenD d ∧ ∀ ds e, d = .tuple ds → e ∈ ds → lenD e
theorem tup7 {d : PyData} (h : isTupD d 7 = true) : ∃ e0 e1 e2 e3 e4 e5 e6, d = .tuple [e0, e1, e2, e3, e4, e5, e6] := by
  cases d with
  | tuple ds =>
    unfold isTupD at h
    dsimp only at h
    have h := of_decide_eq_true h
    match ds, h with
    | [e0, e1, e2, e3, e4, e5, e6], _ => exact ⟨e0, e1, e2, e3, e4, e5, e6, rfl⟩
    | [], h => simp at h
    | [_], h => simp at h
    | [_, _], h => simp at h
    | [_, _, _], h => simp at h
    | [_, _, _, _], h => simp at h
    | [_, _, _, _, _], h => simp at h
    | [_, _, _, _, _, _], h => simp at h
    | _ :: _ :: _ :: _ :: _ :: _ :: _ :: _ :: r, h => simp at h; omega
  | _ => cases h
theorem cutV_drop1take (a b c d : V) (r : List V) : cutV (a :: b :: c :: d :: r) (some (1 : Int)) (some (4 : Int)) = [b, c, d] := by
  unfold cutV
  rw [show (1 : Int) = ((1 : Nat) : Int) from rfl, show (4 : Int) = ((4 : Nat) : Int) from rfl, HT.sIx_nat, HT.sIx_nat, Nat.min_eq_left (by simp), Nat.min_eq_left (by simp)]
  rfl
theorem cut3 (a b c d : V) (r : List V) : cutV (a :: b :: c :: d :: r) (some (1 : Int)) (some (4 : Int)) = [b, c, d] := by
  have := cutV_drop1take a b c d r
  exact this
def sp_bentD (K : PySem.W.Frag) : Sp := fun vs H Q _ => ∃ (nv v : V) (m : Addr) (rows : List Addr) (n : Nat) (ties : List (Nat × Nat)) (d : PyData), vs = [nv, .ref m, v] ∧ Net H nv n ties ∧ Mat H m rows n (tieT ties) ∧ n ≤ 40 ∧ Dp K H v d ∧ lenDs d ∧ ∀ (ans : Bool) H', Same H H' → (ans = true ↔ BentD n (tieT ties) d) → Q (.bl ans) H'
theorem cal_bentD (A : At K mg "place_stretches" s_place_stretches) (B : Bi mg) (c_is_tuple : Cal P w K mg base 1 "is_tuple" (sp_is_tuple K)) (c_are_points : Cal P w K mg base 3 "are_points" (sp_are_points K)) (c_is_long_ring : Cal P w K mg base 5 "is_long_ring" (sp_longD K)) (c_is_way_off : Cal P w K mg base 5 "is_way_off" (sp_is_way_off K)) : Cal P w K mg base 6 "place_stretches" (sp_bentD K) := by
  have nd := sc_place_stretches.nd
  refine A.cal sc_place_stretches (fun _ _ _ _ _ _ us hl => match us, hl with | [_, _, _], _ => rfl) ?_ fun f cdv A' outer s H vs Q E hr h => ⟨_, (C8.pss_cut (ps_if (PW.pt (pw_and (pt_val (pe_cal c_is_tuple hr (by first | decide | omega) (by rfl) passE (pa_cons (pv 2) (pa_cons pe_int pa_nil)))) (pw_and (pt_val (pe_callB (call_isiK' (K := K) rfl) (by rfl) B.isinstance (by decide +kernel) (pa_cons (pe_ix (ix_tupK (K := K) rfl) (pv 2) pe_int (fun _ _ => rfl)) (pa_cons (pe_bltn (v := .ty "str") (u := .type "str") (by rfl) B.str_ (by decide +kernel) rfl) pa_nil)))) (pw_and1 (pt_cmpR op_eq (pe_ix (ix_tupK (K := K) rfl) (pv 2) pe_int (fun _ _ => rfl)) pe_str (nomark _)))))) (pss_one (ps_ret (pe_cal c_is_long_ring hr (by first | decide | omega) (by rfl) passE (pa_cons (pv 0) (pa_cons (pv 1) (pa_cons (pe_ix (ix_tupK (K := K) rfl) (pv 2) pe_int (fun _ _ => rfl)) pa_nil)))))) pss_nil)
  (C8.pss_cut (ps_if (PW.pt (pw_or (pt_not (pt_val (pe_cal c_is_tuple hr (by first | decide | omega) (by rfl) passE (pa_cons (pv 2) (pa_cons pe_int pa_nil))))) (pw_or (pt_not (pt_val (pe_callB (call_isiK' (K := K) rfl) (by rfl) B.isinstance (by decide +kernel) (pa_cons (pe_ix (ix_tupK (K := K) rfl) (pv 2) pe_int (fun _ _ => rfl)) (pa_cons (pe_bltn (v := .ty "str") (u := .type "str") (by rfl) B.str_ (by decide +kernel) rfl) pa_nil))))) (pw_or (pt_cmpR op_ne (pe_ix (ix_tupK (K := K) rfl) (pv 2) pe_int (fun _ _ => rfl)) pe_str (nomark _)) (pw_or1 (pt_not (pt_val (pe_cal c_are_points hr (by first | decide | omega) (by rfl) passE (pa_cons (pv 0) (pa_cons (pe_slice (sl_tupAK (K := K) rfl) (pv 2) (po_some pe_int) (po_some pe_int)) pa_nil)))))))))) (pss_one (ps_ret pe_bl)) pss_nil)
  (pss_cons (ps_asg (pe_slice (sl_tupAK (K := K) rfl) (pv 2) (po_some pe_int) (po_some pe_int)) (pg_tupK (K := K) (n := 3) rfl rfl (pgs_cons (pg_name (i := 3) nd rfl (.inl rfl)) (pgs_cons (pg_name (i := 4) nd rfl (.inl rfl)) (pgs_cons (pg_name (i := 5) nd rfl (.inl rfl)) pgs_nil)))))
  (C8.pss_cut (ps_if (PW.pt (pw_or (pt_not (pt_val (pe_cal c_is_way_off hr (by first | decide | omega) (by rfl) passE (pa_cons (pv 0) (pa_cons (pv 1) (pa_cons (pe_ix (ix_tupK (K := K) rfl) (pv 2) pe_int (fun _ _ => rfl)) (pa_cons (pv 3) (pa_cons (pv 4) (pa_cons (pv 5) pa_nil))))))))) (pw_or1 (pt_not (pt_val (pe_cal c_is_way_off hr (by first | decide | omega) (by rfl) passE (pa_cons (pv 0) (pa_cons (pv 1) (pa_cons (pe_ix (ix_tupK (K := K) rfl) (pv 2) pe_int (fun _ _ => rfl)) (pa_cons (pv 3) (pa_cons (pv 5) (pa_cons (pv 4) pa_nil)))))))))))) (pss_one (ps_ret pe_bl)) pss_nil)
  (pss_one (ps_ret (pe_cal c_is_way_off hr (by first | decide | omega) (by rfl) passE (pa_cons (pv 0) (pa_cons (pv 1) (pa_cons (pe_ix (ix_tupK (K := K) rfl) (pv 2) pe_int (fun _ _ => rfl)) (pa_cons (pv 4) (pa_cons (pv 5) (pa_cons (pv 3) pa_nil))))))))))))), ?_⟩
  · rintro vs H Q E ⟨nv, v, m, rows, n, ties, d, rfl, _⟩
    rfl
  · obtain ⟨nv, v, m, rows, n, ties, d, rfl, hN, hM, hn, hd, ⟨hl, hl2⟩, q⟩ := h
    have no : ∀ H', Same H H' → ¬ BentD n (tieT ties) d → Q (.bl false) H' := fun H' s' h => q false H' s' (iff_of_false Bool.false_ne_true h)
    refine cut_midJ (fun σ' H' => σ' = [some nv, some (.ref m), some v, none, none, none] ∧ H' = H ∧ ¬ ∃ r, d = .tuple [.str "ring", r]) ?_ ?_
    · refine ⟨_, rfl, v, d, 2, rfl, hd, _, rfl, ifB (fun c => ?_) (fun c => ?_)⟩
      · obtain ⟨e0, e1, rfl⟩ := tup2 c
        cases hd with
        | tup hs ha =>
          rename_i a us
          cases ha with
          | cons h0 ha =>
            cases ha with
            | cons h1 ha =>
              cases ha
              rename_i v0 v1
              refine ⟨_, rfl, _, _, _, _, rfl, rfl, hs, rfl, _, .ty "str", .type (tyName _), .type "str", _, rfl, .ty _, tyX_of h0, kit_ty (kit_isi _ "str" (by simp)), ?_⟩
              rw [isi_str]
              refine ⟨_, rfl, ifB (fun c2 => ?_) (fun c2 => ?_)⟩
              · cases h0 with
                | str x =>
                  refine ⟨_, rfl, _, _, _, _, rfl, rfl, hs, rfl, rfl, _, rfl, ifD (fun c3 => ?_) (fun c3 => ?_)⟩
                  · have c3 := V.str.inj c3
                    subst c3
                    refine ⟨_, rfl, _, rfl, _, rfl, _, _, _, _, rfl, rfl, hs, rfl, nv, v1, m, rows, n, ties, e1, rfl, hN, hM, hn, h1, hl2 _ _ rfl (by simp), fun H1 s1 => q _ _ s1 ?_⟩
                    constructor
                    · exact fun h => .inl ⟨_, rfl, h⟩
                    · rintro (⟨e, he, h⟩ | ⟨a, b, c, W1, W2, W3, he, _⟩)
                      · have := PyData.tuple.inj he
                        simp only [List.cons.injEq, and_true, true_and] at this
                        rw [this]
                        exact h
                      · have := congrArg List.length (PyData.tuple.inj he)
                        simp at this
                  · refine ⟨rfl, rfl, fun ⟨r, hr⟩ => c3 ?_⟩
                    have := PyData.tuple.inj hr
                    simp only [List.cons.injEq, PyData.str.injEq] at this
                    rw [this.1]
                | _ => cases c2
              · refine ⟨rfl, rfl, fun ⟨r, hr⟩ => ?_⟩
                have := PyData.tuple.inj hr
                simp only [List.cons.injEq] at this
                rw [this.1] at c2
                cases c2
      · refine ⟨rfl, rfl, fun ⟨r, hr⟩ => ?_⟩
        subst hr
        cases c
    · rintro σ' H' ⟨rfl, rfl, nr⟩
      have no3 : ∀ H2, Same H' H2 → ¬ ThreeD n (tieT ties) d → Q (.bl false) H2 := fun H2 s2 h => no H2 s2 fun k => k.elim (fun ⟨e, he, _⟩ => nr ⟨e, he⟩) h
      have eq3 : BentD n (tieT ties) d ↔ ThreeD n (tieT ties) d := ⟨fun k => k.elim (fun ⟨e, he, _⟩ => absurd ⟨e, he⟩ nr) id, .inr⟩
      refine cut_midJ (fun σ' H2 => σ' = [some nv, some (.ref m), some v, none, none, none] ∧ Same H' H2 ∧ ∃ (x y z : Nat) (e4 e5 e6 : PyData), d = .tuple [.str "three", .int (x : Int), .int (y : Int), .int (z : Int), e4, e5, e6] ∧ x < n ∧ y < n ∧ z < n ∧ [x, y, z].Nodup) ?_ ?_
      · refine ⟨_, rfl, v, d, 7, rfl, hd, _, rfl, ifN (fun c => no3 _ (Same.refl _) ?_) (fun c => ?_)⟩
        · rintro ⟨a, b, c', W1, W2, W3, rfl, _⟩
          cases c
        · obtain ⟨e0, e1, e2, e3, e4, e5, e6, rfl⟩ := tup7 c
          cases hd with
          | tup hs ha =>
            rename_i a us
            cases ha with
            | cons h0 ha =>
              rename_i v0 us
              refine ⟨_, rfl, _, _, _, _, rfl, rfl, hs, atI_nat (xs := v0 :: us) (j := 0) rfl, _, .ty "str", .type (tyName _), .type "str", _, rfl, .ty _, tyX_of h0, kit_ty (kit_isi _ "str" (by simp)), _, rfl, ifN (fun c2 => no3 _ (Same.refl _) ?_) (fun c2 => ?_)⟩
              · rintro ⟨a, b, c', W1, W2, W3, he, _⟩
                have := PyData.tuple.inj he
                simp only [List.cons.injEq] at this
                rw [this.1] at c2
                cases c2
              · rw [isi_str] at c2
                cases h0 with
                | str x =>
                  refine ⟨_, rfl, _, _, _, _, rfl, rfl, hs, atI_nat (xs := V.str x :: us) (j := 0) rfl, rfl, _, rfl, ifND (fun c3 => no3 _ (Same.refl _) ?_) (fun c3 => ?_)⟩
                  · rintro ⟨a, b, c', W1, W2, W3, he, _⟩
                    have := PyData.tuple.inj he
                    simp only [List.cons.injEq, PyData.str.injEq] at this
                    exact c3 (by rw [this.1])
                  · have c3 := V.str.inj c3
                    subst c3
                    cases ha with
                    | cons h1 ha =>
                      cases ha with
                      | cons h2 ha =>
                        cases ha with
                        | cons h3 ha =>
                          rename_i v1 v2 v3 us3
                          refine ⟨_, rfl, _, rfl, _, rfl, _, rfl, ?_⟩
                          refine slQT hs fun p H1 s1 hp => ?_
                          have hp : SqT K H1 p [v1, v2, v3] := by
                            have e : cutV (V.str "three" :: v1 :: v2 :: v3 :: us3) (some (1 : Int)) (some (4 : Int)) = [v1, v2, v3] := cut3 _ _ _ _ _
                            rw [← e]
                            exact hp
                          have hdr : Dp K H1 (.ref p) (.tuple [e1, e2, e3]) := .tup hp (.cons (Dp.same s1 _ _ h1) (.cons (Dp.same s1 _ _ h2) (.cons (Dp.same s1 _ _ h3) .nil)))
                          refine ⟨nv, .ref p, n, ties, .tuple [e1, e2, e3], rfl, hN.keep (sKt s1), hdr, fun ds e => by cases e; show 3 ≤ 2000; decide, _, rfl, ifN (fun c4 => no3 _ s1 ?_) (fun c4 => ?_)⟩
                          · rintro ⟨a, b, c', W1, W2, W3, he, la, lb, lc, n1, n2, n3, _⟩
                            have := PyData.tuple.inj he
                            simp only [List.cons.injEq, and_true, true_and] at this
                            obtain ⟨rfl, rfl, rfl, _⟩ := this
                            have := row_pts (n := n) (W := [a, b, c']) (by simp; omega) (by simp; omega)
                            rw [show rowD [a, b, c'] = .tuple [.int (a : Int), .int (b : Int), .int (c' : Int)] from rfl, c4] at this
                            cases this
                          · obtain ⟨xs, e, hlt, ndx, _⟩ := ptsF_yes c4
                            have e := PyData.tuple.inj e
                            match xs, e, hlt, ndx with
                            | [x, y, z], e, hlt, ndx =>
                              simp only [List.map_cons, List.map_nil, List.cons.injEq, and_true] at e
                              obtain ⟨rfl, rfl, rfl⟩ := e
                              exact ⟨rfl, s1, x, y, z, e4, e5, e6, rfl, hlt x (by simp), hlt y (by simp), hlt z (by simp), ndx⟩
                            | [], e, _, _ => cases e
                            | [_], e, _, _ => simp at e
                            | [_, _], e, _, _ => simp at e
                            | _ :: _ :: _ :: _ :: _, e, _, _ => simp at e
                | _ => cases c2
      · rintro σ' H2 ⟨rfl, s2, x, y, z, e4, e5, e6, rfl, hx, hy, hz, ndx⟩
        cases hd with
        | tup hs ha =>
          rename_i a us
          cases ha with
          | cons h0 ha =>
            cases h0
            cases ha with
            | cons h1 ha =>
              cases h1
              cases ha with
              | cons h2 ha =>
                cases h2
                cases ha with
                | cons h3 ha =>
                  cases h3
                  cases ha with
                  | cons h4 ha =>
                    cases ha with
                    | cons h5 ha =>
                      cases ha with
                      | cons h6 ha =>
                        cases ha
                        rename_i v4 v5 v6
                        have hs2 := sqT_same s2 hs
                        have hN2 := hN.keep (sKt s2)
                        refine ⟨_, rfl, _, rfl, _, rfl, ?_⟩
                        refine slQT hs2 fun p H3 s3 hp => ?_
                        have hp : SqT K H3 p [pI x, pI y, pI z] := by
                          rw [show [pI x, pI y, pI z] = cutV [V.str "three", pI x, pI y, pI z, v4, v5, v6] (some (1 : Int)) (some (4 : Int)) from (cut3 _ _ _ _ _).symm]
                          exact hp
                        refine ⟨p, _, rfl, hp, rfl, _, _, rfl, _, _, rfl, _, _, rfl, rfl, ?_⟩
                        have s23 := s2.trans s3
                        have hs3 := sqT_same s23 hs
                        have key : BentD n (tieT ties) (.tuple [.str "three", .int (x : Int), .int (y : Int), .int (z : Int), e4, e5, e6]) ↔ (∃ W, e4 = rowD W ∧ WayR n (tieT ties) x y z W) ∧ (∃ W, e5 = rowD W ∧ WayR n (tieT ties) x z y W) ∧ ∃ W, e6 = rowD W ∧ WayR n (tieT ties) y z x W := by
                          rw [eq3]
                          constructor
                          · rintro ⟨a, b, c', W1, W2, W3, he, _, _, _, _, _, _, w1, w2, w3⟩
                            have := PyData.tuple.inj he
                            simp only [List.cons.injEq, and_true, true_and, PyData.int.injEq] at this
                            obtain ⟨ea, eb, ec, f1, f2, f3⟩ := this
                            have ea : x = a := by omega
                            have eb : y = b := by omega
                            have ec : z = c' := by omega
                            subst ea
                            subst eb
                            subst ec
                            exact ⟨⟨W1, f1, w1⟩, ⟨W2, f2, w2⟩, ⟨W3, f3, w3⟩⟩
                          · rintro ⟨⟨W1, rfl, w1⟩, ⟨W2, rfl, w2⟩, ⟨W3, rfl, w3⟩⟩
                            simp only [List.nodup_cons, List.mem_cons, List.not_mem_nil, or_false, not_or] at ndx
                            exact ⟨x, y, z, W1, W2, W3, rfl, hx, hy, hz, ndx.1.1, ndx.1.2, ndx.2.1, w1, w2, w3⟩
                        refine cut_midJ (fun σ' H4 => σ' = [some nv, some (.ref m), some (.ref a), some (pI x), some (pI y), some (pI z)] ∧ Same H' H4 ∧ (∃ W, e4 = rowD W ∧ WayR n (tieT ties) x y z W) ∧ ∃ W, e5 = rowD W ∧ WayR n (tieT ties) x z y W) ?_ ?_
                        · refine ⟨_, rfl, _, rfl, _, rfl, _, _, _, _, rfl, rfl, hs3, rfl, _, rfl, _, rfl, _, rfl, nv, v4, m, rows, n, x, y, z, ties, e4, rfl, hN.keep (sKt s23), hM.same s23, hn, hz, Dp.same s23 _ _ h4, hl2 _ _ rfl (by simp), fun a1 H4 s4 ha1 => ⟨_, rfl, ifN (fun c5 => no _ (s23.trans s4) fun k => ?_) (fun c5 => ?_)⟩⟩
                          · rw [ha1.mpr (key.mp k).1] at c5
                            cases c5
                          have s24 := s23.trans s4
                          refine ⟨_, rfl, _, rfl, _, rfl, _, _, _, _, rfl, rfl, sqT_same s24 hs, rfl, _, rfl, _, rfl, _, rfl, nv, v5, m, rows, n, x, z, y, ties, e5, rfl, hN.keep (sKt s24), hM.same s24, hn, hy, Dp.same s24 _ _ h5, hl2 _ _ rfl (by simp), fun a2 H5 s5 ha2 => ⟨_, rfl, ifN (fun c6 => no _ (s24.trans s5) fun k => ?_) (fun c6 => ⟨rfl, s24.trans s5, ha1.mp c5, ha2.mp c6⟩)⟩⟩
                          rw [ha2.mpr (key.mp k).2.1] at c6
                          cases c6
                        · rintro σ' H4 ⟨rfl, s4, w1, w2⟩
                          refine ⟨_, rfl, _, rfl, _, rfl, _, _, _, _, rfl, rfl, sqT_same s4 hs, rfl, _, rfl, _, rfl, _, rfl, nv, v6, m, rows, n, y, z, x, ties, e6, rfl, hN.keep (sKt s4), hM.same s4, hn, hx, Dp.same s4 _ _ h6, hl2 _ _ rfl (by simp), fun a3 H5 s5 ha3 => q _ _ (s4.trans s5) ?_⟩
                          rw [ha3, key]
                          exact ⟨fun w3 => ⟨w1, w2, w3⟩, fun k => k.2.2⟩
end
end Ns
/-! Own layer: data of new tuples are short. -/
namespace Ns
open PySem PySem.Spec PyProof.Rows L2
theorem tn_lenD {N : Nat} {H : Hp} {v : V} {d : PyData} (hN : N ≤ 2000) (h : TN N H v d) : lenD d := fun ds e => by
  subst e
  cases h with
  | tup _ l ta => rw [← ta.len]; omega
theorem tna_mem {N : Nat} {H : Hp} {e : PyData} : ∀ {vs : List V} {ds : List PyData}, TNA N H vs ds → e ∈ ds → ∃ v, TN N H v e
  | _, _, .cons a t, h => by
    rcases List.mem_cons.mp h with k | k
    · rw [k]; exact ⟨_, a⟩
    · exact tna_mem t k
theorem tn_lenDs {N : Nat} {H : Hp} {v : V} {d : PyData} (hN : N ≤ 2000) (h : TN N H v d) : lenDs d := ⟨tn_lenD hN h, fun ds e hd he => by
  subst hd
  cases h with
  | tup _ _ ta =>
    obtain ⟨u, hu⟩ := tna_mem ta he
    exact tn_lenD hN hu⟩
end Ns
/-! Own layer, plain: straight rows out of stretches without a claw. -/
namespace Ns
open PySem PySem.Spec PyProof.Rows L2
/-- between two tied points all are tied to both -/
def Straight (n : Nat) (T : Tm) (f : Nat → Int) : Prop := ∀ x y z, x < n → y < n → z < n → f x ≤ f y → f y ≤ f z → T x z = true → (x = y ∨ T x y = true) ∧ (y = z ∨ T y z = true)
theorem Straight.rev {n : Nat} {T : Tm} {f : Nat → Int} (sy : ∀ i j, T i j = T j i) (h : Straight n T f) : Straight n T fun x => - f x := fun x y z hx hy hz h1 h2 t => by
  have h1 : - f x ≤ - f y := h1
  have h2 : - f y ≤ - f z := h2
  obtain ⟨a, b⟩ := h z y x hz hy hx (by omega) (by omega) (by rw [sy]; exact t)
  exact ⟨b.elim (fun e => .inl e.symm) fun e => .inr (by rw [sy]; exact e), a.elim (fun e => .inl e.symm) fun e => .inr (by rw [sy]; exact e)⟩
theorem sub_full {es ns : List Nat} (nd : es.Nodup) (s : ∀ x ∈ es, x ∈ ns) (l : ns.length ≤ es.length) : ∀ x ∈ ns, x ∈ es := fun x hx => by
  apply Classical.byContradiction
  intro nx
  have := len_le_of_sub (es := x :: es) (List.nodup_cons.mpr ⟨nx, nd⟩) fun y hy => by
    rcases List.mem_cons.mp hy with e | e
    · rw [e]; exact hx
    · exact s y e
  rw [List.length_cons] at this
  omega
def NoClaw (n : Nat) (T : Tm) : Prop := ∀ c x y z, c < n → x < n → y < n → z < n → T c x = true → T c y = true → T c z = true → x ≠ y → x ≠ z → y ≠ z → T x y = false → T x z = false → T y z = false → False
section
variable {n : Nat} {ties : List (Nat × Nat)} (hg : Good n ties)
include hg
open Classical in
/-- Roberts -/
theorem roberts (S : SyT (tieT ties)) (c4 : NoR4 (tieT ties) (· < n)) (nc : NoClaw n (tieT ties)) {F : Ar} (st : TO (tieE (coT n ties)) F) : ∃ f : Nat → Int, Straight n (tieT ties) f := by
  have co := fun {x y} (h : F x y) => (coT_tie hg).mp (st.sub h)
  have ir : ∀ x, ¬ F x x := fun x h => (co h).2.2.1 rfl
  have tied : ∀ {x y : Nat}, x < n → y < n → x ≠ y → ¬ F x y → ¬ F y x → tieT ties x y = true := fun {x y} hx hy ne h1 h2 => by
    cases e : tieT ties x y
    · rcases st.all ((coT_tie hg).mpr ⟨hx, hy, ne, e⟩) with h | h
      · exact absurd h h1
      · exact absurd h h2
    · rfl
  have chain : ∀ {x y z w : Nat}, F x y → F z w → F x w ∨ F z y := fun {x y z w} h1 h2 => by
    apply Classical.byContradiction
    intro k
    have k1 : ¬ F x w := fun h => k (.inl h)
    have k2 : ¬ F z y := fun h => k (.inr h)
    obtain ⟨x0, y0, xy, txy⟩ := co h1
    obtain ⟨z0, w0, zw, tzw⟩ := co h2
    have xw : x ≠ w := fun e => k2 (st.go h2 (e ▸ h1))
    have zy : z ≠ y := fun e => k1 (st.go h1 (e ▸ h2))
    have xz : x ≠ z := fun e => k2 (e ▸ h1)
    have yw : y ≠ w := fun e => k1 (e ▸ h1)
    have t1 := tied x0 w0 xw k1 fun h => k2 (st.go h2 (st.go h h1))
    have t2 := tied z0 y0 zy k2 fun h => k1 (st.go h1 (st.go h h2))
    have t3 := tied x0 z0 xz (fun h => k1 (st.go h h2)) (fun h => k2 (st.go h h1))
    have t4 := tied y0 w0 yw (fun h => k1 (st.go h1 h)) (fun h => k2 (st.go h2 h))
    exact c4 x w y z x0 w0 y0 z0 xy (Ne.symm zw) t1 (by rw [S.sy]; exact t4) (by rw [S.sy]; exact t2) (by rw [S.sy]; exact t3) txy (by rw [S.sy]; exact tzw)
  -- three in a row are not all untied to a fourth one: a claw
  have three : ∀ {u y v x : Nat}, F u y → F y v → x ≠ y → (F u x → False) → (F x u → False) → (F x v → False) → (F v x → False) → (F x y → False) → (F y x → False) → x ≠ u → x ≠ v → x < n → False := fun {u y v x} h1 h2 n1 a b c d e f g i hx => by
    obtain ⟨u0, y0, uy, tuy⟩ := co h1
    obtain ⟨_, v0, yv, tyv⟩ := co h2
    obtain ⟨_, _, uv, tuv⟩ := co (st.go h1 h2)
    exact nc x u y v hx u0 y0 v0 (tied hx u0 g b a) (tied hx y0 n1 e f) (tied hx v0 i c d) uy uv yv tuy tuv tyv
  let pr : Nat → List Nat := fun x => (List.range n).filter fun u => decide (F u x)
  let su : Nat → List Nat := fun x => (List.range n).filter fun v => decide (F x v)
  have inP : ∀ {x u : Nat}, u ∈ pr x ↔ F u x := fun {x u} => by
    show u ∈ (List.range n).filter _ ↔ _
    rw [List.mem_filter, decide_eq_true_eq, List.mem_range]
    exact ⟨fun h => h.2, fun h => ⟨(co h).1, h⟩⟩
  have inS : ∀ {x v : Nat}, v ∈ su x ↔ F x v := fun {x v} => by
    show v ∈ (List.range n).filter _ ↔ _
    rw [List.mem_filter, decide_eq_true_eq, List.mem_range]
    exact ⟨fun h => h.2, fun h => ⟨(co h).2.1, h⟩⟩
  have ndP : ∀ x, (pr x).Nodup := fun x => List.nodup_range.filter _
  have ndS : ∀ x, (su x).Nodup := fun x => List.nodup_range.filter _
  clear_value pr su
  -- one way round or the other
  have semi : ∀ {x y : Nat}, x < n → y < n → ((∀ u, F u x → F u y) ∧ ∀ v, F y v → F x v) ∨ ((∀ u, F u y → F u x) ∧ ∀ v, F x v → F y v) := fun {x y} hx hy => by
    apply Classical.byContradiction
    intro k
    rw [not_or, Classical.not_and_iff_not_or_not, Classical.not_and_iff_not_or_not] at k
    obtain ⟨k1, k2⟩ := k
    have ex : ∀ {p q : Nat → Prop}, ¬ (∀ u, p u → q u) → ∃ u, p u ∧ ¬ q u := fun {p q} h => by
      apply Classical.byContradiction
      intro g
      exact h fun u hu => Classical.byContradiction fun nu => g ⟨u, hu, nu⟩
    -- a crossing: u ahead of y only, v behind y only
    have cross : ∀ {x y u v : Nat}, x < n → F u y → ¬ F u x → F y v → ¬ F x v → False := fun {x y u v} hx a b c d => by
      have nxy : x ≠ y := fun e => b (e ▸ a)
      refine three a c nxy b (fun h => d (st.go (st.go h a) c)) d (fun h => b (st.go (st.go a c) h)) (fun h => d (st.go h c)) (fun h => b (st.go a h)) (fun e => d (by rw [e]; exact st.go a c)) (fun e => b (by rw [e]; exact st.go a c)) hx
    rcases k1 with k1 | k1
    · obtain ⟨u, u1, u2⟩ := ex k1
      rcases k2 with k2 | k2
      · obtain ⟨u', u3, u4⟩ := ex k2
        rcases chain u1 u3 with h | h
        · exact u2 h
        · exact u4 h
      · obtain ⟨v, v1, v2⟩ := ex k2
        exact cross (x := y) (y := x) (u := u) (v := v) hy u1 u2 v1 v2
    · obtain ⟨v, v1, v2⟩ := ex k1
      rcases k2 with k2 | k2
      · obtain ⟨u, u1, u2⟩ := ex k2
        exact cross (x := x) (y := y) (u := u) (v := v) hx u1 u2 v1 v2
      · obtain ⟨v', v3, v4⟩ := ex k2
        rcases chain v1 v3 with h | h
        · exact v4 h
        · exact v2 h
  let f : Nat → Int := fun x => ((pr x).length : Int) - ((su x).length : Int)
  have hf : ∀ x, f x = ((pr x).length : Int) - ((su x).length : Int) := fun _ => rfl
  clear_value f
  -- the number tells which way round
  have le : ∀ {x y : Nat}, x < n → y < n → f x ≤ f y → (∀ u, F u x → F u y) ∧ ∀ v, F y v → F x v := fun {x y} hx hy h => by
    rcases semi hx hy with k | ⟨k1, k2⟩
    · exact k
    · have l1 := len_le_of_sub (ndP y) fun u hu => inP.mpr (k1 u (inP.mp hu))
      have l2 := len_le_of_sub (ndS x) fun v hv => inS.mpr (k2 v (inS.mp hv))
      rw [hf, hf] at h
      exact ⟨fun u hu => inP.mp (sub_full (ndP y) (fun u hu => inP.mpr (k1 u (inP.mp hu))) (by omega) u (inP.mpr hu)), fun v hv => inS.mp (sub_full (ndS x) (fun v hv => inS.mpr (k2 v (inS.mp hv))) (by omega) v (inS.mpr hv))⟩
  refine ⟨f, fun x y z hx hy hz h1 h2 t => ?_⟩
  have nxz : ¬ F x z := fun h => by
    have := (co h).2.2.2
    rw [t] at this
    cases this
  constructor
  · by_cases e : x = y
    · exact .inl e
    · exact .inr (tied hx hy e (fun h => nxz ((le hy hz h2).1 x h)) fun h => ir y ((le hx hy h1).1 y h))
  · by_cases e : y = z
    · exact .inl e
    · exact .inr (tied hy hz e (fun h => nxz ((le hx hy h1).2 z h)) fun h => ir z ((le hy hz h2).1 z h))
end
end Ns
/-! Own layer, plain: three sweeps find a straight row. -/
namespace Ns
open PySem PySem.Spec PyProof.Rows L2
theorem least_of {α : Type} (p : α → Prop) (f : α → Nat) (h : ∃ a, p a) : ∃ a, p a ∧ ∀ c, p c → f a ≤ f c := by
  apply Classical.byContradiction
  intro k
  have k2 : ∀ m a, p a → f a = m → False := fun m => by
    induction m using Nat.strongRecOn with
    | ind m ih =>
      intro a ha e
      refine k ⟨a, ha, fun c hc => Classical.byContradiction fun q => ih (f c) (by omega) c hc rfl⟩
  obtain ⟨a, ha⟩ := h
  exact k2 _ a ha rfl
/-- the law of a sweep: its row pos, the row before posb -/
structure LexP (n : Nat) (T : Tm) (pos posb : Nat → Nat) : Prop where
  inj : ∀ x y, x < n → y < n → pos x = pos y → x = y
  lex : ∀ a b, a < n → b < n → pos a < pos b → (∃ u, u < n ∧ pos u < pos a ∧ T u a = true ∧ T u b = false ∧ ∀ v, v < n → pos v < pos u → T v a = T v b) ∨ ((∀ v, v < n → pos v < pos a → T v a = T v b) ∧ posb b < posb a)
abbrev HgT (n : Nat) (T : Tm) : Nat → Nat → Prop := Cn T (· < n)
structure FirstP (n : Nat) (T : Tm) (pos : Nat → Nat) (s : Nat) : Prop where
  lt : s < n
  first : ∀ x, HgT n T s x → x ≠ s → pos s < pos x
structure LastP (n : Nat) (T : Tm) (pos : Nat → Nat) (z : Nat) : Prop where
  lt : z < n
  last : ∀ x, HgT n T z x → x ≠ z → pos x < pos z
section
variable {n : Nat} {T : Tm} (S : SyT T)
theorem HgT.edge {x y : Nat} (hx : x < n) (hy : y < n) (t : T x y = true) : HgT n T x y := .step (.refl hx) t hy
variable {pos posb : Nat → Nat} (X : LexP n T pos posb)
include X
/-- a point behind the first one of its piece has a neighbour ahead -/
theorem LexP.back {s v : Nat} (F : FirstP n T pos s) (h : HgT n T s v) (ne : v ≠ s) : ∃ u, u < n ∧ pos u < pos v ∧ T u v = true := by
  apply Classical.byContradiction
  intro k
  have key : ∀ w, HgT n T s w → pos w < pos v := fun w hw => by
    induction hw with
    | refl _ => exact F.first v h ne
    | step g t hw ih =>
      rename_i y w
      have yn : y < n := g.right
      rcases Nat.lt_trichotomy (pos w) (pos v) with c | c | c
      · exact c
      · have e := X.inj w v hw h.right c
        rw [e] at t
        exact absurd ⟨y, yn, ih, t⟩ k
      · rcases X.lex v w h.right hw c with ⟨u, hu, p, t1, _⟩ | ⟨q, _⟩
        · exact absurd ⟨u, hu, p, t1⟩ k
        · exact absurd ⟨y, yn, ih, by rw [q y yn ih]; exact t⟩ k
  exact absurd (key v h) (Nat.lt_irrefl _)
include S
/-- pieces stand in one stretch -/
theorem LexP.stretch : ∀ (m a b c : Nat), pos c ≤ m → a < n → b < n → c < n → pos a < pos b → pos b < pos c → HgT n T a c → HgT n T a b
  | 0, a, b, c, hm, _, _, _, h1, h2, _ => by omega
  | m + 1, a, b, c, hm, ha, hb, hc, h1, h2, h => by
    apply Classical.byContradiction
    intro nb
    have key : ∀ y, HgT n T a y → pos y < pos b ∨ ∃ u w, HgT n T a u ∧ HgT n T a w ∧ T u w = true ∧ pos u < pos b ∧ pos b < pos w := fun y hy => by
      induction hy with
      | refl _ => exact .inl h1
      | step g t hw ih =>
        rename_i y w
        rcases ih with ih | ih
        · rcases Nat.lt_trichotomy (pos w) (pos b) with c | c | c
          · exact .inl c
          · have e := X.inj w b hw hb c
            exact absurd (e ▸ Cn.step g t hw) nb
          · exact .inr ⟨y, w, g, .step g t hw, t, ih, c⟩
        · exact .inr ih
    rcases key c h with k | ⟨u, w, hu, hw, t, pu, pw⟩
    · omega
    have un := hu.right
    have wn := hw.right
    rcases X.lex b w hb wn pw with ⟨v, hv, pv, t1, t2, al⟩ | ⟨al, _⟩
    · have vu : pos v < pos u := by
        rcases Nat.lt_trichotomy (pos v) (pos u) with k | k | k
        · exact k
        · rw [X.inj v u hv un k, t] at t2
          cases t2
        · have := al u un k
          rw [t] at this
          exact absurd (hu.step this hb) nb
      have vb : HgT n T v b := HgT.edge hv hb t1
      have := LexP.stretch m v u b (by omega) hv un hb vu pu vb
      exact nb ((hu.trans (this.symm S.sy)).trans vb)
    · have := al u un pu
      rw [t] at this
      exact nb (hu.step this hb)
omit S
/-- what stands ahead of a point though it should stand behind it -/
theorem LexP.ahead {f : Nat → Int} (f0 : Straight n T f) (S : SyT T) {s a : Nat} (F : FirstP n T pos s) (ha : HgT n T s a) (sa : f s ≤ f a) : ∀ (m v : Nat), pos v ≤ m → HgT n T s v → pos v < pos a → f a < f v → T a v = true ∧ (∀ x, x < n → pos x < pos v → T x v = T x a) ∧ posb a < posb v := by
  intro m
  induction m with
  | zero =>
    intro v hm hv pv fv
    -- v would be the first one
    exfalso
    have vs : v ≠ s := fun e => by rw [e] at fv; omega
    have := F.first v hv vs
    omega
  | succ m ih =>
    intro v hm hv pv fv
    have an := ha.right
    have vn := hv.right
    have alt : (∀ x, x < n → pos x < pos v → T x v = T x a) ∧ posb a < posb v := by
      rcases X.lex v a vn an pv with ⟨u, hu, pu, t1, t2, _⟩ | ⟨al, b⟩
      · exfalso
        by_cases c : f u ≤ f a
        · rcases (f0 u a v hu an vn c (by omega) t1).1 with e | e
          · rw [e] at pu
            omega
          · rw [e] at t2
            cases t2
        · have hu2 : HgT n T s u := hv.step (by rw [S.sy]; exact t1) hu
          have := (ih u (by omega) hu2 (by omega) (by omega)).1
          rw [S.sy, t2] at this
          cases this
      · exact ⟨al, b⟩
    refine ⟨?_, alt⟩
    obtain ⟨d, ⟨hd, pd, fd⟩, mn⟩ := least_of (fun w => HgT n T s w ∧ pos w ≤ pos v ∧ f a < f w) pos ⟨v, hv, Nat.le_refl _, fv⟩
    have ds : d ≠ s := fun e => by rw [e] at fd; omega
    obtain ⟨w, wn, pw, tw⟩ := X.back F hd ds
    have hw : HgT n T s w := hd.step (by rw [S.sy]; exact tw) wn
    have fw : f w ≤ f a := by
      apply Classical.byContradiction
      intro k
      have := mn w ⟨hw, by omega, by omega⟩
      omega
    have ed : T w d = T w a := by
      by_cases e : pos d = pos v
      · rw [X.inj d v hd.right vn e]
        exact alt.1 w wn (by rw [← e]; exact pw)
      · exact (ih d (by omega) hd (by omega) fd).2.1 w wn pw
    have tv : T w v = true := by rw [alt.1 w wn (by omega), ← ed]; exact tw
    rcases (f0 w a v wn an vn fw (by omega) tv).2 with e | e
    · rw [e] at pv
      omega
    · exact e
/-- the last point of a piece is an end, or like one -/
theorem LexP.end_ {f : Nat → Int} (f0 : Straight n T f) (S : SyT T) {s z l : Nat} (F : FirstP n T pos s) (hz : HgT n T s z) (L : LastP n T pos z) (zs : f z ≤ f s) (hl : HgT n T s l) (mn : ∀ x, HgT n T s x → f l ≤ f x) : f z = f l ∨ (z ≠ l ∧ T z l = true ∧ ∀ x, x < n → x ≠ z → x ≠ l → T x l = T x z) := by
  by_cases e : f z = f l
  · exact .inl e
  refine .inr ?_
  have flz : f l < f z := by have := mn z hz; omega
  have nzl : z ≠ l := fun k => e (by rw [k])
  have zn := hz.right
  have ln := hl.right
  have inz : ∀ {x}, HgT n T s x → x ≠ z → pos x < pos z := fun {x} hx ne => L.last x ((hz.symm S.sy).trans hx) ne
  have A := fun (v : Nat) (hv : HgT n T s v) (pv : pos v < pos z) (fv : f v < f z) => X.ahead (f0.rev S.sy) S F hz (by show - f s ≤ - f z; omega) (pos v) v (Nat.le_refl _) hv pv (by show - f z < - f v; omega)
  obtain ⟨tzl, bl, _⟩ := A l hl (inz hl (Ne.symm nzl)) flz
  refine ⟨nzl, tzl, fun x hx xz xl => ?_⟩
  rcases Nat.lt_trichotomy (pos x) (pos l) with c | c | c
  · exact bl x hx c
  · exact absurd (X.inj x l hx ln c) xl
  · by_cases hs : HgT n T s x
    · have pxz := inz hs xz
      by_cases fx : f x < f z
      · have t1 := (A x hs pxz fx).1
        have t2 : T l x = true := ((f0 l x z ln hx zn (mn x hs) (by omega) (by rw [S.sy]; exact tzl)).1).resolve_left (Ne.symm xl)
        rw [S.sy x l, S.sy x z, t1, t2]
      · have one : T x l = true → T x z = true := fun t => by
          have := ((f0 l z x ln zn hx (mn z hz) (by omega) (by rw [S.sy]; exact t)).2).resolve_left (Ne.symm xz)
          rw [S.sy]
          exact this
        cases txl : T x l
        · cases txz : T x z
          · rfl
          · exfalso
            have lx : T l x = false := by rw [S.sy]; exact txl
            rcases X.lex x z hx zn pxz with ⟨u, hu, pu, t1, t2, al⟩ | ⟨al, _⟩
            · have ul : pos u < pos l := by
                rcases Nat.lt_trichotomy (pos u) (pos l) with k | k | k
                · exact k
                · rw [X.inj u l hu ln k, lx] at t1
                  cases t1
                · have := al l ln k
                  rw [lx, S.sy, tzl] at this
                  cases this
              have tul : T u l = false := by rw [bl u hu ul]; exact t2
              rcases X.lex l x ln hx c with ⟨u2, hu2, pu2, t3, t4, al2⟩ | ⟨al2, _⟩
              · have u2u : pos u2 < pos u := by
                  rcases Nat.lt_trichotomy (pos u2) (pos u) with k | k | k
                  · exact k
                  · rw [X.inj u2 u hu2 hu k, tul] at t3
                    cases t3
                  · have := al2 u hu k
                    rw [tul, t1] at this
                    cases this
                have e1 := al u2 hu2 u2u
                have e2 := bl u2 hu2 pu2
                rw [← e1, t4, t3] at e2
                cases e2
              · have := al2 u hu ul
                rw [tul, t1] at this
                cases this
            · have := al l ln c
              rw [lx, S.sy, tzl] at this
              cases this
        · rw [one txl]
    · have f1 : T x l = false := by
        cases k : T x l
        · rfl
        · exact absurd (hl.step (by rw [S.sy]; exact k) hx) hs
      have f2 : T x z = false := by
        cases k : T x z
        · rfl
        · exact absurd (hz.step (by rw [S.sy]; exact k) hx) hs
      rw [f1, f2]
end
/-- twins may bear one number -/
theorem Straight.twin {n : Nat} {T : Tm} {f : Nat → Int} (S : SyT T) (f0 : Straight n T f) {z l : Nat} (zn : z < n) (ln : l < n) (ne : z ≠ l) (t : T z l = true) (tw : ∀ x, x < n → x ≠ z → x ≠ l → T x l = T x z) (fl : f l ≤ f z) : Straight n T fun x => if x = z then f l else f x := by
  -- seen through the map that sends z to l
  let π : Nat → Nat := fun x => if x = z then l else x
  have hπ : ∀ x, (if x = z then f l else f x) = f (π x) := fun x => by
    show _ = f (if x = z then l else x)
    split <;> rfl
  have πn : ∀ {x}, x < n → π x < n := fun {x} hx => by
    show (if x = z then l else x) < n
    split
    · exact ln
    · exact hx
  have πz : π z = l := if_pos rfl
  have πo : ∀ {x}, x ≠ z → π x = x := fun h => if_neg h
  have tlz : T l z = true := by rw [S.sy]; exact t
  have tw2 : ∀ x, x < n → x ≠ z → x ≠ l → T l x = T z x := fun x h1 h2 h3 => by rw [S.sy l, S.sy z]; exact tw x h1 h2 h3
  -- ties are the same there
  have same : ∀ {x y}, x < n → y < n → π x ≠ π y → T x y = T (π x) (π y) := fun {x y} hx hy ne => by
    by_cases ex : x = z
    · by_cases ey : y = z
      · exact absurd (by rw [ex, ey]) ne
      · rw [ex, πz, πo ey]
        rw [ex, πz, πo ey] at ne
        exact (tw2 y hy ey (Ne.symm ne)).symm
    · by_cases ey : y = z
      · rw [ey, πz, πo ex]
        rw [ey, πz, πo ex] at ne
        exact (tw x hx ex ne).symm
      · rw [πo ex, πo ey]
  have two : ∀ {x y}, π x = π y → x = y ∨ T x y = true := fun {x y} e => by
    by_cases ex : x = z
    · by_cases ey : y = z
      · exact .inl (ex.trans ey.symm)
      · rw [ex, πz, πo ey] at e
        rw [ex, ← e]
        exact .inr t
    · by_cases ey : y = z
      · rw [ey, πz, πo ex] at e
        rw [ey, e]
        exact .inr tlz
      · rw [πo ex, πo ey] at e
        exact .inl e
  have back : ∀ {x y}, x < n → y < n → (π x = π y ∨ T (π x) (π y) = true) → x = y ∨ T x y = true := fun {x y} hx hy h => by
    by_cases e : π x = π y
    · exact two e
    · rw [same hx hy e]
      exact h.imp (fun k => absurd k e) id
  intro x y w hx hy hw h1 h2 txw
  have h1 : (if x = z then f l else f x) ≤ (if y = z then f l else f y) := h1
  have h2 : (if y = z then f l else f y) ≤ (if w = z then f l else f w) := h2
  rw [hπ, hπ] at h1 h2
  by_cases e : π x = π w
  · -- x and w are z and l
    have fe : f (π y) = f (π x) := by rw [e] at h1 ⊢; omega
    have main : π y = l ∨ T l (π y) = true := by
      by_cases k : π y = l
      · exact .inl k
      · have yl : π x = l := by
          by_cases ex : x = z
          · rw [ex, πz]
          · by_cases ew : w = z
            · rw [e, ew, πz]
            · rw [πo ex, πo ew] at e
              rw [e, S.ir] at txw
              cases txw
        rw [yl] at fe
        rcases (f0 l (π y) z ln (πn hy) zn (by omega) (by omega) tlz).1 with q | q
        · exact absurd q.symm k
        · exact .inr q
    have xl : π x = l := by
      by_cases ex : x = z
      · rw [ex, πz]
      · by_cases ew : w = z
        · rw [e, ew, πz]
        · rw [πo ex, πo ew] at e
          rw [e, S.ir] at txw
          cases txw
    refine ⟨back hx hy (main.imp (fun k => by rw [xl, k]) fun k => by rw [xl]; exact k), back hy hw (main.imp (fun k => by rw [← e, xl, k]) fun k => by rw [← e, xl, S.sy]; exact k)⟩
  · rw [same hx hw e] at txw
    obtain ⟨a, b⟩ := f0 (π x) (π y) (π w) (πn hx) (πn hy) (πn hw) h1 h2 txw
    exact ⟨back hx hy a, back hy hw b⟩
end Ns
/-! Own layer, plain: the third sweep's row is straight. -/
namespace Ns
open PySem PySem.Spec PyProof.Rows L2
section
variable {n : Nat} {T : Tm} (S : SyT T) {p1 p2 p3 p0 : Nat → Nat}
include S
/-- an end of the first row is least for some straight numbers -/
theorem sweep_one {pos posb : Nat → Nat} (X : LexP n T pos posb) {f : Nat → Int} (f0 : Straight n T f) {s z : Nat} (F : FirstP n T pos s) (hz : HgT n T s z) (L : LastP n T pos z) : ∃ g : Nat → Int, Straight n T g ∧ ∀ x, HgT n T z x → g z ≤ g x := by
  -- with f or with - f
  have half : ∀ {f : Nat → Int}, Straight n T f → f z ≤ f s → ∃ g : Nat → Int, Straight n T g ∧ ∀ x, HgT n T z x → g z ≤ g x := fun {f} f0 zs => by
    obtain ⟨l, hl, mn⟩ := least_of (fun x => HgT n T s x) (fun x => (f x - (f z - ((List.range n).map fun y => (f z - f y).toNat).sum)).toNat) ⟨z, hz⟩
    -- least by the integers themselves
    obtain ⟨l, hl, mn⟩ : ∃ l, HgT n T s l ∧ ∀ x, HgT n T s x → f l ≤ f x := by
      obtain ⟨c, hc⟩ : ∃ c : Int, ∀ x, x < n → c ≤ f x := by
        have : ∀ m, ∃ c : Int, ∀ x, x < m → c ≤ f x := fun m => by
          induction m with
          | zero => exact ⟨0, fun x h => absurd h (Nat.not_lt_zero _)⟩
          | succ m ih =>
            obtain ⟨c, hc⟩ := ih
            refine ⟨min c (f m), fun x hx => ?_⟩
            by_cases e : x = m
            · rw [e]; exact Int.min_le_right _ _
            · exact Int.le_trans (Int.min_le_left _ _) (hc x (by omega))
        exact this n
      obtain ⟨l, hl, mn⟩ := least_of (fun x => HgT n T s x) (fun x => (f x - c).toNat) ⟨z, hz⟩
      refine ⟨l, hl, fun x hx => ?_⟩
      have h1 := mn x hx
      have h2 := hc x hx.right
      have h3 := hc l hl.right
      omega
    rcases X.end_ f0 S F hz L zs hl mn with e | ⟨ne, t, tw⟩
    · exact ⟨f, f0, fun x hx => by rw [e]; exact mn x (hz.trans hx)⟩
    · refine ⟨_, f0.twin S hz.right hl.right ne t tw (mn z hz), fun x hx => ?_⟩
      rw [if_pos rfl]
      split
      · exact Int.le_refl _
      · exact mn x (hz.trans hx)
  by_cases c : f z ≤ f s
  · exact half f0 c
  · exact half (f0.rev S.sy) (by show - f z ≤ - f s; omega)
/-- both ends: the first one is kept least, the last one is made greatest -/
theorem sweep_two {pos posb : Nat → Nat} (X : LexP n T pos posb) {f : Nat → Int} (f0 : Straight n T f) {s z : Nat} (F : FirstP n T pos s) (hz : HgT n T s z) (L : LastP n T pos z) (mn : ∀ x, HgT n T s x → f s ≤ f x) : ∃ g : Nat → Int, Straight n T g ∧ (∀ x, HgT n T s x → g s ≤ g x) ∧ ∀ x, HgT n T s x → g x ≤ g z := by
  by_cases sz : z = s
  · -- a piece of one point
    have only : ∀ x, HgT n T s x → x = s := fun x hx => by
      apply Classical.byContradiction
      intro ne
      have h1 := F.first x hx ne
      have h2 := L.last x (by rw [sz]; exact hx) (by rw [sz]; exact ne)
      rw [sz] at h2
      omega
    exact ⟨f, f0, mn, fun x hx => by rw [only x hx, sz]; exact Int.le_refl _⟩
  -- the greatest one
  obtain ⟨r, hr, mx⟩ : ∃ r, HgT n T s r ∧ ∀ x, HgT n T s x → f x ≤ f r := by
    obtain ⟨c, hc⟩ : ∃ c : Int, ∀ x, x < n → f x ≤ c := by
      have : ∀ m, ∃ c : Int, ∀ x, x < m → f x ≤ c := fun m => by
        induction m with
        | zero => exact ⟨0, fun x h => absurd h (Nat.not_lt_zero _)⟩
        | succ m ih =>
          obtain ⟨c, hc⟩ := ih
          refine ⟨max c (f m), fun x hx => ?_⟩
          by_cases e : x = m
          · rw [e]; exact Int.le_max_right _ _
          · exact Int.le_trans (hc x (by omega)) (Int.le_max_left _ _)
      exact this n
    obtain ⟨l, hl, mn⟩ := least_of (fun x => HgT n T s x) (fun x => (c - f x).toNat) ⟨z, hz⟩
    refine ⟨l, hl, fun x hx => ?_⟩
    have h1 := mn x hx
    have h2 := hc x hx.right
    have h3 := hc l hl.right
    omega
  have g0 := f0.rev S.sy
  rcases X.end_ g0 S F hz L (by show - f z ≤ - f s; have := mn z hz; omega) hr (fun x hx => by show - f r ≤ - f x; have := mx x hx; omega) with e | ⟨ne, t, tw⟩
  · have e : - f z = - f r := e
    exact ⟨f, f0, mn, fun x hx => by have := mx x hx; omega⟩
  · have h := (g0.twin S hz.right hr.right ne t tw (by show - f r ≤ - f z; have := mx z hz; omega)).rev S.sy
    refine ⟨_, h, fun x hx => ?_, fun x hx => ?_⟩
    · show - (if s = z then - f r else - f s) ≤ - (if x = z then - f r else - f x)
      rw [if_neg (Ne.symm sz)]
      have h1 := mn x hx
      have h2 := mn r hr
      split <;> omega
    · show - (if x = z then - f r else - f x) ≤ - (if z = z then - f r else - f z)
      rw [if_pos rfl]
      have h1 := mx x hx
      split <;> omega
theorem first_of {pos : Nat → Nat} (inj : ∀ x y, x < n → y < n → pos x = pos y → x = y) {c : Nat} (hc : c < n) : ∃ s, HgT n T c s ∧ FirstP n T pos s := by
  obtain ⟨s, hs, mn⟩ := least_of (fun x => HgT n T c x) pos ⟨c, .refl hc⟩
  refine ⟨s, hs, hs.right, fun x hx ne => ?_⟩
  have := mn x (hs.trans hx)
  have : pos s ≠ pos x := fun e => ne (inj s x hs.right hx.right e).symm
  omega
theorem last_of {pos : Nat → Nat} (inj : ∀ x y, x < n → y < n → pos x = pos y → x = y) {c : Nat} (hc : c < n) : ∃ z, HgT n T c z ∧ LastP n T pos z := by
  have bd : ∀ m, ∃ b, ∀ x, x < m → pos x ≤ b := fun m => by
    induction m with
    | zero => exact ⟨0, fun x h => absurd h (Nat.not_lt_zero _)⟩
    | succ m ih =>
      obtain ⟨b, hb⟩ := ih
      refine ⟨max b (pos m), fun x hx => ?_⟩
      by_cases e : x = m
      · rw [e]; exact Nat.le_max_right _ _
      · exact Nat.le_trans (hb x (by omega)) (Nat.le_max_left _ _)
  obtain ⟨b, hb⟩ := bd n
  obtain ⟨z, hz, mx⟩ := greatest_of (fun x => HgT n T c x) pos b ⟨c, .refl hc⟩ fun x hx => hb x hx.right
  refine ⟨z, hz, hz.right, fun x hx ne => ?_⟩
  have := mx x (hz.trans hx)
  have : pos z ≠ pos x := fun e => ne (inj z x hz.right hx.right e).symm
  omega
/-- the first point of a piece in one row is its last one in the row before -/
theorem first_last {pos posb : Nat → Nat} (X : LexP n T pos posb) {s : Nat} (F : FirstP n T pos s) : LastP n T posb s := ⟨F.lt, fun b hb ne => by
  rcases X.lex s b F.lt hb.right (F.first b hb ne) with ⟨u, hu, pu, t, _⟩ | ⟨_, q⟩
  · exfalso
    have hu2 : HgT n T s u := HgT.edge F.lt hu (by rw [S.sy]; exact t)
    by_cases e : u = s
    · rw [e] at pu
      omega
    · have := F.first u hu2 e
      omega
  · exact q⟩
theorem last_uniq {pos : Nat → Nat} {a b : Nat} (h : HgT n T a b) (A : LastP n T pos a) (B : LastP n T pos b) : a = b := by
  apply Classical.byContradiction
  intro ne
  have h1 := A.last b h (Ne.symm ne)
  have h2 := B.last a (h.symm S.sy) ne
  omega
/-- the third row is straight -/
theorem sweeps {f : Nat → Int} (f0 : Straight n T f) (X1 : LexP n T p1 p0) (X2 : LexP n T p2 p1) (X3 : LexP n T p3 p2) {x y w : Nat} (hx : x < n) (hy : y < n) (hw : w < n) (l1 : p3 x < p3 y) (l2 : p3 y < p3 w) (t : T x w = true) : T x y = true ∧ T y w = true := by
  obtain ⟨s1, c1, F1⟩ := first_of S X1.inj hx
  obtain ⟨z1, d1, L1⟩ := last_of S X1.inj hx
  obtain ⟨s2, c2, F2⟩ := first_of S X2.inj hx
  obtain ⟨z2, d2, L2⟩ := last_of S X2.inj hx
  obtain ⟨s3, c3, F3⟩ := first_of S X3.inj hx
  have sy := S.sy
  have e2 : s2 = z1 := last_uniq S ((c2.symm sy).trans d1) (first_last S X2 F2) L1
  have e3 : s3 = z2 := last_uniq S ((c3.symm sy).trans d2) (first_last S X3 F3) L2
  subst e2
  subst e3
  obtain ⟨g, g0, gm⟩ := sweep_one S X1 f0 F1 ((c1.symm sy).trans c2) L1
  obtain ⟨h, h0, hm, hM⟩ := sweep_two S X2 g0 F2 ((c2.symm sy).trans c3) L2 gm
  -- all in the piece of x
  have inC : ∀ {u}, HgT n T x u → HgT n T s2 u ∧ HgT n T s3 u := fun hu => ⟨(c2.symm sy).trans hu, (c3.symm sy).trans hu⟩
  have A2 : ∀ {a v : Nat}, HgT n T x a → HgT n T x v → p2 v < p2 a → h a < h v → T a v = true ∧ ∀ u, u < n → p2 u < p2 v → T u v = T u a := fun {a v} ha hv pv fv => by
    obtain ⟨q1, q2, _⟩ := X2.ahead h0 S F2 (inC ha).1 (hm a (inC ha).1) (p2 v) v (Nat.le_refl _) (inC hv).1 pv fv
    exact ⟨q1, q2⟩
  have A3 : ∀ {a v : Nat}, HgT n T x a → HgT n T x v → p3 v < p3 a → h v < h a → T a v = true ∧ (∀ u, u < n → p3 u < p3 v → T u v = T u a) ∧ p2 a < p2 v := fun {a v} ha hv pv fv =>
    X3.ahead (h0.rev sy) S F3 (inC ha).2 (by show - h s3 ≤ - h a; have := hM a (inC ha).1; omega) (p3 v) v (Nat.le_refl _) (inC hv).2 pv (by show - h a < - h v; omega)
  -- what stands the wrong way round is alike
  have tw : ∀ {a v : Nat}, HgT n T x a → HgT n T x v → p3 v < p3 a → h v < h a → T v a = true ∧ ∀ u, HgT n T x u → u ≠ a → u ≠ v → T u a = T u v := fun {a v} ha hv pv fv => by
    obtain ⟨t1, al3, p2av⟩ := A3 ha hv pv fv
    obtain ⟨_, al2⟩ := A2 hv ha p2av fv
    refine ⟨by rw [sy]; exact t1, fun u hu ua uv => ?_⟩
    have un := hu.right
    by_cases k3 : p3 u < p3 v
    · exact (al3 u un k3).symm
    by_cases k2 : p2 u < p2 a
    · exact al2 u un k2
    have k3 : p3 v < p3 u := by
      have : p3 u ≠ p3 v := fun e => uv (X3.inj u v un hv.right e)
      omega
    have k2 : p2 a < p2 u := by
      have : p2 u ≠ p2 a := fun e => ua (X2.inj u a un ha.right e)
      omega
    have f1 : h u < h a → T u a = true := fun c => (A2 hu ha k2 c).1
    have f2 : h v < h u → T u v = true := fun c => (A3 hu hv k3 c).1
    by_cases b1 : h u < h a
    · rw [f1 b1]
      by_cases b2 : h v < h u
      · exact (f2 b2).symm
      · have := ((h0 u v a un hv.right ha.right (by omega) (by omega) (f1 b1)).1).resolve_left uv
        exact this.symm
    · rw [f2 (by omega)]
      have := ((h0 v a u hv.right ha.right un (by omega) (by omega) (by rw [sy]; exact f2 (by omega))).2).resolve_left (Ne.symm ua)
      rw [sy]
      exact this
  have hxx : HgT n T x x := .refl hx
  have hxw : HgT n T x w := HgT.edge hx hw t
  have hxy : HgT n T x y := X3.stretch S (p3 w) x y w (Nat.le_refl _) hx hy hw l1 l2 hxw
  have nexy : x ≠ y := fun e => by rw [e] at l1; omega
  have neyw : y ≠ w := fun e => by rw [e] at l2; omega
  have nexw : x ≠ w := fun e => by rw [e] at l1; omega
  by_cases i1 : h x < h y
  · obtain ⟨q1, q2⟩ := tw hxy hxx l1 i1
    refine ⟨q1, ?_⟩
    rw [sy, q2 w hxw (Ne.symm neyw) (Ne.symm nexw), sy]
    exact t
  by_cases i2 : h y < h w
  · obtain ⟨q1, q2⟩ := tw hxw hxy l2 i2
    refine ⟨?_, q1⟩
    rw [← q2 x hxx nexw nexy]
    exact t
  · obtain ⟨a, b⟩ := h0 w y x hw hy hx (by omega) (by omega) (by rw [sy]; exact t)
    refine ⟨?_, ?_⟩
    · rw [sy]
      exact b.resolve_left (Ne.symm nexy)
    · rw [sy]
      exact a.resolve_left (Ne.symm neyw)
end
end Ns
/-! Own layer, plain: places for a straight row. -/
namespace Ns
open PySem PySem.Spec PyProof.Rows L2
/-- ties by places in the row, nothing untied between tied ones -/
structure RowS (n : Nat) (R : Nat → Nat → Bool) : Prop where
  sy : ∀ i j, R i j = R j i
  st : ∀ i j k, i < j → j < k → k < n → R i k = true → R i j = true ∧ R j k = true
/-- numbers in some unit -/
theorem units_of {n : Nat} {R : Nat → Nat → Bool} (h : RowS n R) : ∀ m, m ≤ n → ∃ (p : Nat → Int) (U : Int), 0 < U ∧ (∀ i, i < m → 0 ≤ p i) ∧ (∀ i j, i < j → j < m → p i < p j) ∧ ∀ i j, i < j → j < m → (R i j = true ↔ p j - p i < U)
  | 0, _ => ⟨fun _ => 0, 1, by omega, fun i h => absurd h (by omega), fun i j _ h => absurd h (by omega), fun i j _ h => absurd h (by omega)⟩
  | m + 1, hm => by
    obtain ⟨p, U, u0, p0, inc, eq⟩ := units_of h m (by omega)
    -- the new one's number
    obtain ⟨x, x0, x1, x2⟩ : ∃ x : Int, 0 ≤ x ∧ (∀ i, i < m → 2 * p i < x) ∧ ∀ i, i < m → (R i m = true ↔ x - 2 * p i < 2 * U) := by
      by_cases z : m = 0
      · exact ⟨0, by omega, fun i hi => by omega, fun i hi => by omega⟩
      have pm := p0 (m - 1) (by omega)
      have top : ∀ i, i < m → p i ≤ p (m - 1) := fun i hi => by
        by_cases e : i = m - 1
        · rw [e]; exact Int.le_refl _
        · exact Int.le_of_lt (inc i (m - 1) (by omega) (by omega))
      by_cases q : ∃ i, i < m ∧ R i m = false
      · obtain ⟨q, ⟨qm, qR⟩, qx⟩ := greatest_of (fun i => i < m ∧ R i m = false) id m q fun i hi => by have := hi.1; simp; omega
        have qx : ∀ i, i < m → R i m = false → i ≤ q := fun i h1 h2 => qx i ⟨h1, h2⟩
        have above : ∀ i, q < i → i < m → R i m = true := fun i h1 h2 => by
          cases e : R i m
          · have := qx i h2 e
            omega
          · rfl
        have below : ∀ i, i ≤ q → R i m = false := fun i hi => by
          cases e : R i m
          · rfl
          · by_cases e2 : i = q
            · rw [e2, qR] at e
              cases e
            · have := (h.st i q m (by omega) qm (by omega) e).2
              rw [qR] at this
              cases this
        have lq : ∀ i, i ≤ q → p i ≤ p q := fun i hi => by
          by_cases e : i = q
          · rw [e]; exact Int.le_refl _
          · exact Int.le_of_lt (inc i q (by omega) qm)
        have pq := p0 q qm
        refine ⟨max (2 * p (m - 1)) (2 * p q + 2 * U) + 1, by omega, fun i hi => by have := top i hi; omega, fun i hi => ?_⟩
        by_cases c : i ≤ q
        · rw [below i c]
          have := lq i c
          exact ⟨fun k => (nomatch k), fun k => by omega⟩
        · rw [above i (by omega) hi]
          refine iff_of_true rfl ?_
          have h1 := inc q i (by omega) hi
          have h2 : p (m - 1) - p i < U := by
            by_cases e : i = m - 1
            · rw [e]; omega
            · have : R i (m - 1) = true := (h.st i (m - 1) m (by omega) (by omega) (by omega) (above i (by omega) hi)).1
              exact (eq i (m - 1) (by omega) (by omega)).mp this
          omega
      · have all : ∀ i, i < m → R i m = true := fun i hi => by
          cases e : R i m
          · exact absurd ⟨i, hi, e⟩ q
          · rfl
        refine ⟨2 * p (m - 1) + 1, by omega, fun i hi => by have := top i hi; omega, fun i hi => ?_⟩
        rw [all i hi]
        refine iff_of_true rfl ?_
        have h2 : p (m - 1) - p i < U := by
          by_cases e : i = m - 1
          · rw [e]; omega
          · have : R i (m - 1) = true := (h.st i (m - 1) m (by omega) (by omega) (by omega) (all i hi)).1
            exact (eq i (m - 1) (by omega) (by omega)).mp this
        omega
    refine ⟨fun i => if i = m then x else 2 * p i, 2 * U, by omega, fun i hi => ?_, fun i j hij hj => ?_, fun i j hij hj => ?_⟩
    · show 0 ≤ (if i = m then x else 2 * p i)
      split
      · exact x0
      · have := p0 i (by omega)
        omega
    · show (if i = m then x else 2 * p i) < (if j = m then x else 2 * p j)
      rw [if_neg (show i ≠ m by omega)]
      split
      · exact x1 i (by omega)
      · have := inc i j hij (by omega)
        omega
    · show _ ↔ (if j = m then x else 2 * p j) - (if i = m then x else 2 * p i) < 2 * U
      rw [if_neg (show i ≠ m by omega)]
      split
      · rename_i e
        rw [e]
        exact x2 i (by omega)
      · rw [eq i j hij (by omega)]
        omega
/-- places in a unit of the length -/
structure SolR (n : Nat) (R : Nat → Nat → Bool) (L : Int) (s : Nat → Int) : Prop where
  pos : ∀ i, i < n → 0 ≤ s i
  mono : ∀ i j, i < j → j < n → s i ≤ s j
  eq : ∀ i j, i < j → j < n → (R i j = true ↔ s j - s i ≤ L)
theorem sol_ex {n : Nat} {R : Nat → Nat → Bool} (h : RowS n R) {L : Int} (hL : (n : Int) ≤ L) : ∃ s, SolR n R L s := by
  obtain ⟨p, U, u0, p0, inc, eq⟩ := units_of h n (Nat.le_refl _)
  let rk : Nat → Nat := fun i => (List.range n).countP fun k => decide (p k % U < p i % U)
  have rk_lt : ∀ i, i < n → rk i < n := fun i hi => by
    have h1 : rk i ≤ n := by
      have := List.countP_le_length (p := fun k => decide (p k % U < p i % U)) (l := List.range n)
      rw [List.length_range] at this
      exact this
    rcases Nat.lt_or_ge (rk i) n with c | c
    · exact c
    · exfalso
      have e : (List.range n).countP (fun k => decide (p k % U < p i % U)) = (List.range n).length := by
        rw [List.length_range]
        exact Nat.le_antisymm h1 c
      have := List.countP_eq_length.mp e i (List.mem_range.mpr hi)
      have := of_decide_eq_true this
      omega
  have cnt : ∀ {i j}, p i % U ≤ p j % U → rk i ≤ rk j := fun {i j} h => List.countP_mono_left fun k _ hk => decide_eq_true (by have := of_decide_eq_true hk; omega)
  have cnt2 : ∀ {i j}, i < n → p i % U < p j % U → rk i < rk j := fun {i j} hi h => by
    have le := cnt (i := i) (j := j) (by omega)
    rcases Nat.lt_or_ge (rk i) (rk j) with c | c
    · exact c
    · exfalso
      have e : rk i = rk j := by omega
      have key : ∀ l : List Nat, i ∈ l → l.countP (fun k => decide (p k % U < p i % U)) < l.countP (fun k => decide (p k % U < p j % U)) := by
        intro l
        induction l with
        | nil => intro h; cases h
        | cons a r ih =>
          intro hm
          rw [List.countP_cons, List.countP_cons]
          have le2 : r.countP (fun k => decide (p k % U < p i % U)) ≤ r.countP (fun k => decide (p k % U < p j % U)) := List.countP_mono_left fun k _ hk => decide_eq_true (by have := of_decide_eq_true hk; omega)
          rcases List.mem_cons.mp hm with k | k
          · subst k
            rw [decide_eq_false (show ¬ p i % U < p i % U by omega), decide_eq_true h]
            simp
            omega
          · have := ih k
            by_cases ca : p a % U < p i % U
            · rw [decide_eq_true ca, decide_eq_true (show p a % U < p j % U by omega)]
              simp
              omega
            · rw [decide_eq_false ca]
              simp
              omega
      have := key (List.range n) (List.mem_range.mpr hi)
      have e2 : (List.range n).countP (fun k => decide (p k % U < p i % U)) = (List.range n).countP (fun k => decide (p k % U < p j % U)) := e
      omega
  clear_value rk
  have dm : ∀ i, p i = U * (p i / U) + p i % U := fun i => (Int.mul_ediv_add_emod (p i) U).symm
  have m0 : ∀ i, 0 ≤ p i % U := fun i => Int.emod_nonneg _ (by omega)
  have m1 : ∀ i, p i % U < U := fun i => Int.emod_lt_of_pos _ u0
  have d0 : ∀ i, i < n → 0 ≤ p i / U := fun i hi => Int.ediv_nonneg (p0 i hi) (by omega)
  refine ⟨fun i => (p i / U) * (L + 1) + rk i, fun i hi => ?_, fun i j hij hj => ?_, fun i j hij hj => ?_⟩
  · have h1 : 0 ≤ (p i / U) * (L + 1) := Int.mul_nonneg (d0 i hi) (by omega)
    show 0 ≤ (p i / U) * (L + 1) + rk i
    omega
  all_goals
    have lt := inc i j hij hj
    have e1 := dm i
    have e2 := dm j
    have a1 := m0 i
    have a2 := m1 i
    have a3 := m0 j
    have a4 := m1 j
    have r1 := rk_lt i (by omega)
    have r2 := rk_lt j hj
    generalize p i / U = ci at *
    generalize p j / U = cj at *
    generalize hmi : p i % U = mi at *
    generalize hmj : p j % U = mj at *
    have cle : ci ≤ cj := by
      rcases Int.lt_or_le cj ci with k | k
      · exfalso
        have : U * (cj + 1) ≤ U * ci := Int.mul_le_mul_of_nonneg_left (by omega) (by omega)
        rw [Int.mul_add] at this
        omega
      · exact k
  · show ci * (L + 1) + rk i ≤ cj * (L + 1) + rk j
    by_cases c : ci = cj
    · subst c
      have : rk i ≤ rk j := cnt (by rw [hmi, hmj]; omega)
      omega
    · have : (ci + 1) * (L + 1) ≤ cj * (L + 1) := Int.mul_le_mul_of_nonneg_right (by omega) (by omega)
      rw [Int.add_mul] at this
      omega
  · rw [eq i j hij hj]
    show _ ↔ (cj * (L + 1) + rk j) - (ci * (L + 1) + rk i) ≤ L
    by_cases c : ci = cj
    · subst c
      refine iff_of_true ?_ ?_
      · omega
      · have : rk i ≤ rk j := cnt (by rw [hmi, hmj]; omega)
        omega
    · by_cases c2 : cj = ci + 1
      · subst c2
        rw [Int.mul_add] at e2
        rw [Int.add_mul]
        by_cases c3 : mj < mi
        · have := cnt2 (i := j) (j := i) hj (by rw [hmi, hmj]; omega)
          refine iff_of_true ?_ ?_ <;> omega
        · have := cnt (i := i) (j := j) (by rw [hmi, hmj]; omega)
          refine iff_of_false ?_ ?_ <;> omega
      · have g1 : (ci + 2) * (L + 1) ≤ cj * (L + 1) := Int.mul_le_mul_of_nonneg_right (by omega) (by omega)
        have g2 : U * (ci + 2) ≤ U * cj := Int.mul_le_mul_of_nonneg_left (by omega) (by omega)
        rw [Int.add_mul] at g1
        rw [Int.mul_add] at g2
        refine iff_of_false ?_ ?_ <;> omega
/-- the farthest place tied -/
structure LastR (n : Nat) (R : Nat → Nat → Bool) (i e : Nat) : Prop where
  ge : i ≤ e
  lt : e < n
  tied : i < e → R i e = true
  no : ∀ k, e < k → k < n → R i k = false
/-- what the places must hold -/
structure FitR (n : Nat) (last : Nat → Nat) (L : Int) (pl : Nat → Int) : Prop where
  back : ∀ i, i < n → pl (last i) - L ≤ pl i
  up : ∀ i, 0 < i → i < n → pl (i - 1) ≤ pl i
  far : ∀ i, i < n → last i + 1 < n → pl i + L + 1 ≤ pl (last i + 1)
theorem SolR.fit {n : Nat} {R : Nat → Nat → Bool} {L : Int} {s : Nat → Int} (x : SolR n R L s) (hL : 0 ≤ L) {last : Nat → Nat} (hl : ∀ i, i < n → LastR n R i (last i)) : FitR n last L s := by
  refine ⟨fun i hi => ?_, fun i h0 hi => x.mono (i - 1) i (by omega) hi, fun i hi h => ?_⟩
  · have l := hl i hi
    by_cases e : i = last i
    · rw [← e]; omega
    · have := (x.eq i (last i) (by have := l.ge; omega) l.lt).mp (l.tied (by have := l.ge; omega))
      omega
  · have l := hl i hi
    have h1 := l.no (last i + 1) (by omega) h
    have h2 := x.eq i (last i + 1) (by have := l.ge; omega) h
    rw [h1] at h2
    have : ¬ s (last i + 1) - s i ≤ L := fun k => by cases h2.mpr k
    omega
/-- places that hold it are right -/
theorem FitR.right {n : Nat} {R : Nat → Nat → Bool} (h : RowS n R) {L : Int} (hL : 0 ≤ L) {last : Nat → Nat} (hl : ∀ i, i < n → LastR n R i (last i)) {pl : Nat → Int} (x : FitR n last L pl) : ∀ i j, i < j → j < n → (R i j = true ↔ pl j - pl i ≤ L) ∧ pl i ≤ pl j := by
  have mono : ∀ k i, i + k < n → pl i ≤ pl (i + k) := fun k => by
    induction k with
    | zero => exact fun i _ => Int.le_refl _
    | succ k ih =>
      intro i hi
      have h1 := ih i (by omega)
      have h2 := x.up (i + (k + 1)) (by omega) hi
      rw [show i + (k + 1) - 1 = i + k by omega] at h2
      omega
  have mono2 : ∀ i j, i ≤ j → j < n → pl i ≤ pl j := fun i j h1 h2 => by
    have := mono (j - i) i (by omega)
    rwa [show i + (j - i) = j by omega] at this
  intro i j hij hj
  have l := hl i (by omega)
  refine ⟨?_, mono2 i j (by omega) hj⟩
  by_cases c : j ≤ last i
  · refine iff_of_true ?_ ?_
    · by_cases e : j = last i
      · rw [e]; exact l.tied (by omega)
      · exact (h.st i j (last i) hij (by omega) l.lt (l.tied (by omega))).1
    · have h1 := x.back i (by omega)
      have h2 := mono2 j (last i) c l.lt
      omega
  · refine iff_of_false ?_ ?_
    · rw [l.no j (by omega) hj]
      exact fun k => nomatch k
    · have h1 := x.far i (by omega) (by omega)
      have h2 := mono2 (last i + 1) j (by omega) hj
      omega
end Ns
/-! Own layer, plain: the pieces off a point, numbered one after another. -/
namespace Ns
open PySem PySem.Spec PyProof.Rows L2
/-- which piece off p: below 0 at p and what is tied to it; two others alike just where they hang together off p -/
structure PcO (n : Nat) (T : Tm) (p : Nat) (F : Nat → Int) : Prop where
  out : ∀ x, x < n → (0 ≤ F x ↔ x ≠ p ∧ T x p = false)
  one : ∀ x y, x < n → y < n → 0 ≤ F x → 0 ≤ F y → (F x = F y ↔ Off T (· < n) p x y)
structure PcI (n : Nat) (T : Tm) (p i : Nat) (F : Nat → Int) (many : Nat) : Prop where
  out : ∀ x, x < n → 0 ≤ F x → x ≠ p ∧ T x p = false ∧ F x < many
  upto : ∀ x, x < i → x < n → x ≠ p → T x p = false → 0 ≤ F x
  one : ∀ x y, x < n → y < n → 0 ≤ F x → 0 ≤ F y → (F x = F y ↔ Off T (· < n) p x y)
  cl : ∀ x y, x < n → 0 ≤ F x → Off T (· < n) p x y → 0 ≤ F y
structure PcW (n : Nat) (T : Tm) (p : Nat) (F0 : Nat → Int) (M b : Nat) (F : Nat → Int) (op : List Nat) : Prop where
  old : ∀ x, x < n → F x = F0 x ∨ (F0 x < 0 ∧ F x = M ∧ Off T (· < n) p b x)
  fb : F b = M
  lf : ∀ x ∈ op, x < n ∧ F x = M
  clo : ∀ x, x < n → F x = M → x ∉ op → ∀ y, y < n → T x y = true → y ≠ p → T y p = false → 0 ≤ F y
def putF (F : Nat → Int) (y : Nat) (v : Int) : Nat → Int := fun z => if z = y then v else F z
def ngF (n : Nat) (F : Nat → Int) : Nat := (List.range n).countP fun x => decide (F x < 0)
theorem ng_put {n y : Nat} {F : Nat → Int} {v : Int} (hy : y < n) (h : F y < 0) (hv : 0 ≤ v) : ngF n (putF F y v) + 1 = ngF n F := by
  unfold ngF
  have go : ∀ l : List Nat, l.Nodup → y ∈ l → (l.countP fun x => decide (putF F y v x < 0)) + 1 = l.countP fun x => decide (F x < 0) := by
    intro l
    induction l with
    | nil => intro _ h; cases h
    | cons a r ih =>
      intro nd hm
      obtain ⟨na, ndr⟩ := List.nodup_cons.mp nd
      rw [List.countP_cons, List.countP_cons]
      by_cases e : a = y
      · subst e
        have same : (r.countP fun x => decide (putF F a v x < 0)) = r.countP fun x => decide (F x < 0) := List.countP_congr fun x hx => by
          have : x ≠ a := fun e => na (e ▸ hx)
          unfold putF
          rw [if_neg this]
        rw [same]
        have e1 : putF F a v a = v := if_pos rfl
        rw [e1, decide_eq_true h, decide_eq_false (by omega)]
        simp
      · have hm2 : y ∈ r := (List.mem_cons.mp hm).resolve_left (Ne.symm e)
        have := ih ndr hm2
        have e1 : putF F y v a = F a := if_neg e
        rw [e1]
        omega
  exact go _ List.nodup_range (List.mem_range.mpr hy)
section
variable {n : Nat} {T : Tm} {p : Nat} (S : SyT T)
theorem PcI.start : PcI n T p 0 (fun _ => -1) 0 := ⟨fun x _ h => absurd h (by omega), fun x h => absurd h (by omega), fun x y _ _ h => absurd h (by omega), fun x y _ h => absurd h (by omega)⟩
theorem PcI.skip {i : Nat} {F : Nat → Int} {many : Nat} (h : PcI n T p i F many) (k : 0 ≤ F i ∨ i = p ∨ T i p = true) : PcI n T p (i + 1) F many :=
  ⟨h.out, fun x hx hn ne nt => by
    by_cases e : x = i
    · subst e
      rcases k with k | k | k
      · exact k
      · exact absurd k ne
      · rw [nt] at k
        cases k
    · exact h.upto x (by omega) hn ne nt, h.one, h.cl⟩
theorem PcI.done {F : Nat → Int} {many : Nat} (h : PcI n T p n F many) : PcO n T p F :=
  ⟨fun x hx => ⟨fun k => ⟨(h.out x hx k).1, (h.out x hx k).2.1⟩, fun k => h.upto x hx hx k.1 k.2⟩, h.one⟩
variable {F0 : Nat → Int} {M b : Nat} {F : Nat → Int}
theorem PcW.start {i : Nat} (h : PcI n T p i F0 M) (hb : b < n) (k : F0 b < 0) (ne : b ≠ p) (nt : T b p = false) : PcW n T p F0 M b (putF F0 b M) [b] :=
  ⟨fun x hx => by
    unfold putF
    by_cases e : x = b
    · subst e
      rw [if_pos rfl]
      exact .inr ⟨k, rfl, .refl hx ne nt⟩
    · rw [if_neg e]
      exact .inl rfl, if_pos rfl, fun x hx => by rw [List.mem_singleton.mp hx]; exact ⟨hb, if_pos rfl⟩, fun x hx e ne => by
    have nb : x ≠ b := fun e => ne (List.mem_singleton.mpr e)
    unfold putF at e
    rw [if_neg nb] at e
    have := (h.out x hx (by omega)).2.2
    omega⟩
theorem PcW.same {op op' : List Nat} (h : PcW n T p F0 M b F op) (e : ∀ x, x ∈ op ↔ x ∈ op') : PcW n T p F0 M b F op' :=
  ⟨h.old, h.fb, fun x hx => h.lf x ((e x).mpr hx), fun x hx hM nx => h.clo x hx hM fun k => nx ((e x).mp k)⟩
theorem PcW.off {i : Nat} (I : PcI n T p i F0 M) {op : List Nat} (h : PcW n T p F0 M b F op) {x : Nat} (hx : x < n) (e : F x = M) : Off T (· < n) p b x := by
  rcases h.old x hx with k | k
  · rw [k] at e
    have := (I.out x hx (by omega)).2.2
    omega
  · exact k.2.2
theorem PcW.mark {i : Nat} (I : PcI n T p i F0 M) {op : List Nat} (h : PcW n T p F0 M b F op) {x y : Nat} (hx : x ∈ op) (hy : y < n) (t : T x y = true) (ng : F y < 0) (ne : y ≠ p) (nt : T y p = false) : PcW n T p F0 M b (putF F y M) (op ++ [y]) := by
  obtain ⟨xn, xM⟩ := h.lf x hx
  have ox := h.off I xn xM
  refine ⟨fun z hz => ?_, ?_, fun z hz => ?_, fun z hz e nz u hu tu nu ntu => ?_⟩
  · unfold putF
    by_cases e : z = y
    · subst e
      rw [if_pos rfl]
      have n0 : F0 z < 0 := by
        rcases h.old z hz with k | k
        · omega
        · exact k.1
      exact .inr ⟨n0, rfl, .step ox t hz ne nt⟩
    · rw [if_neg e]
      exact h.old z hz
  · unfold putF
    split
    · rfl
    · exact h.fb
  · unfold putF
    rcases List.mem_append.mp hz with hz | hz
    · refine ⟨(h.lf z hz).1, ?_⟩
      split
      · rfl
      · exact (h.lf z hz).2
    · rw [List.mem_singleton.mp hz, if_pos rfl]
      exact ⟨hy, rfl⟩
  · have zy : z ≠ y := fun e => nz (List.mem_append_right _ (List.mem_singleton.mpr e))
    unfold putF at e ⊢
    rw [if_neg zy] at e
    split
    · omega
    · exact h.clo z hz e (fun k => nz (List.mem_append_left _ k)) u hu tu nu ntu
/-- a point's neighbours are looked at -/
theorem PcW.shut {op : List Nat} {x : Nat} (h : PcW n T p F0 M b F (x :: op)) (hx : ∀ y, y < n → T x y = true → y ≠ p → T y p = false → 0 ≤ F y) : PcW n T p F0 M b F op :=
  ⟨h.old, h.fb, fun z hz => h.lf z (List.mem_cons_of_mem _ hz), fun z hz e nz u hu tu nu ntu => by
    by_cases k : z = x
    · subst k
      exact hx u hu tu nu ntu
    · exact h.clo z hz e (fun q => nz ((List.mem_cons.mp q).resolve_left k)) u hu tu nu ntu⟩
include S
theorem PcW.done {i : Nat} (I : PcI n T p i F0 M) (hb : b = i) (k : F0 b < 0) (h : PcW n T p F0 M b F []) : PcI n T p (i + 1) F (M + 1) := by
  have fb := h.fb
  have all : ∀ y, Off T (· < n) p b y → F y = M := fun y hy => by
    induction hy with
    | refl _ _ _ => exact fb
    | step g t wn nw ntw ih =>
      rename_i y w
      have yn := g.last.1
      have := h.clo y yn ih (fun q => nomatch q) w wn t nw ntw
      rcases h.old w wn with k1 | k1
      · exfalso
        rw [k1] at this
        have := I.cl w b wn this ((Off.step g t wn nw ntw).symm S)
        omega
      · exact k1.2.1
  have lower : ∀ x, x < n → 0 ≤ F x → F x ≠ M → F x = F0 x ∧ 0 ≤ F0 x := fun x hx h0 ne => by
    rcases h.old x hx with k1 | k1
    · exact ⟨k1, by omega⟩
    · exact absurd k1.2.1 ne
  have lowr : ∀ x, x < n → 0 ≤ F0 x → F x = F0 x := fun x hx h0 => by
    rcases h.old x hx with k1 | k1
    · exact k1
    · omega
  refine ⟨fun x hx h0 => ?_, fun x hx hn ne nt => ?_, fun x y hx hy h0 h1 => ?_, fun x y hx h0 o => ?_⟩
  · by_cases e : F x = M
    · obtain ⟨_, q, r⟩ := (h.off I hx e).last
      exact ⟨q, r, by omega⟩
    · obtain ⟨e1, e2⟩ := lower x hx h0 e
      obtain ⟨q, r, s⟩ := I.out x hx e2
      exact ⟨q, r, by omega⟩
  · by_cases e : x = i
    · rw [e, ← hb, fb]
      omega
    · have := I.upto x (by omega) hn ne nt
      rw [lowr x hn this]
      exact this
  · by_cases ex : F x = M
    · have ox := h.off I hx ex
      by_cases ey : F y = M
      · have oy := h.off I hy ey
        exact ⟨fun _ => (ox.symm S).trans oy, fun _ => ex.trans ey.symm⟩
      · exact ⟨fun e => absurd (e.symm.trans ex) ey, fun o => absurd (all y (ox.trans o)) ey⟩
    · by_cases ey : F y = M
      · have oy := h.off I hy ey
        exact ⟨fun e => absurd (e.trans ey) ex, fun o => absurd (all x (oy.trans (o.symm S))) ex⟩
      · obtain ⟨e1, e2⟩ := lower x hx h0 ex
        obtain ⟨e3, e4⟩ := lower y hy h1 ey
        rw [e1, e3]
        exact I.one x y hx hy e2 e4
  · by_cases ex : F x = M
    · have := all y ((h.off I hx ex).trans o)
      omega
    · obtain ⟨e1, e2⟩ := lower x hx h0 ex
      have := I.cl x y hx e2 o
      rw [lowr y o.last.1 this]
      exact this
end
def rowF (n : Nat) (F : Nat → Int) : List V := (List.range n).map fun x => V.int (F x)
theorem rowF_len (n : Nat) (F : Nat → Int) : (rowF n F).length = n := by unfold rowF; rw [List.length_map, List.length_range]
theorem rowF_at {n x : Nat} {F : Nat → Int} (h : x < n) : (rowF n F)[x]? = some (.int (F x)) := by
  unfold rowF
  rw [List.getElem?_map, List.getElem?_range h]
  rfl
theorem rowF_rep (n : Nat) : (List.replicate n [V.int (-1)]).flatten = rowF n fun _ => -1 := by
  unfold rowF
  rw [List.map_const', List.length_range]
  induction n with
  | zero => rfl
  | succ k ih => rw [List.replicate_succ, List.flatten_cons, ih, List.replicate_succ]; rfl
theorem rowF_set (n : Nat) (F : Nat → Int) (y : Nat) (z : Int) : (rowF n F).set y (.int z) = rowF n (putF F y z) := by
  apply List.ext_getElem?
  intro i
  unfold rowF putF
  rw [List.getElem?_set, List.getElem?_map, List.getElem?_map, List.length_map, List.length_range]
  by_cases e : y = i
  · subst e
    rw [if_pos rfl]
    by_cases h : y < n
    · rw [if_pos h, List.getElem?_range h]
      simp
    · rw [if_neg h, List.getElem?_eq_none (by simpa using h)]
      rfl
  · rw [if_neg e]
    by_cases h : i < n
    · rw [List.getElem?_range h]
      show some (V.int (F i)) = some (V.int (if i = y then z else F i))
      rw [if_neg (Ne.symm e)]
    · rw [List.getElem?_eq_none (by simpa using h)]
      rfl
end Ns
/-! Own layer: pieces off a point; three points off one another. -/
namespace Ns
open PySem PySem.Spec PyProof.Rows L2
local macro_rules | `(tactic| walk_at "look") => `(tactic| first | assumption | exact upd_same | (refine (upd_ne (by first | assumption | exact Ne.symm (by assumption))).trans ?_; walk_at "look"))
local macro_rules | `(tactic| walk_at "cond") => `(tactic| first | assumption | omega | (dsimp only; omega) | exact ⟨by omega, by omega⟩ | decide | exact ⟨by decide, by decide, by decide⟩ | exact .inr ⟨by decide, by decide⟩ | exact .inl ⟨by decide, by decide⟩ | exact .inr ⟨by omega, by omega⟩ | exact .inl ⟨by omega, by omega⟩)
local macro_rules | `(tactic| walk_at "rd1") => `(tactic| first
  | refine ⟨_, rfl, ?_⟩
  | refine ⟨_, _, rfl, rfl, ?_⟩
  | refine ⟨rfl, ?_⟩
  | refine ⟨_, _, rfl, rfl, (by walk_at "cond"), ?_⟩
  | refine ⟨_, _, _, _, rfl, rfl, SqL.of (by walk_at "look"), rfl, ?_⟩
  | refine ⟨_, _, _, _, rfl, rfl, SqT.of (by walk_at "look"), rfl, ?_⟩
  | refine ⟨_, _, _, _, rfl, rfl, (by walk_at "look"), rfl, ?_⟩
  | refine .inl ⟨_, rfl, ?_⟩
  | refine ⟨.inl ⟨rfl, _, SqL.of (by walk_at "look")⟩, ?_⟩
  | refine ⟨_, _, rfl, ⟨by omega, by omega, by omega, by omega⟩, ?_⟩
  | refine ⟨_, rfl, (by omega), (by omega), ?_⟩
  | refine And.intro (by walk_at "cond") ?_)
local macro_rules | `(tactic| walk_at "rd") => `(tactic| repeat (walk_at "rd1"))
abbrev N_pieces_off : List Str := ["near", "point", "found", "many", "begin", "left", "one"]
theorem sc_pieces_off : FnScope N_pieces_off ["near", "point"] (defScope s_pieces_off) := ⟨rfl, rfl, rfl, by decide +kernel, rfl, by decide +kernel, by decide +kernel⟩
abbrev N_three : List Str := ["net", "near", "off", "a", "b", "c", "point"]
theorem sc_three : FnScope N_three ["net"] (defScope s_three) := ⟨rfl, rfl, rfl, by decide +kernel, rfl, by decide +kernel, by decide +kernel⟩
section
variable {P : Program} {w : World} {K : PySem.W.Frag} {mg : Str → Option Value} {base : Heap}
theorem same_onto {H H6 : Hp} {d : Addr} {o : HO} (s : Same H H6) : Same (upd H d o) (upd H6 d o) := fun x u hu => by
  by_cases e : x = d
  · subst e
    rw [upd_same] at hu ⊢
    exact hu
  · rw [upd_ne e] at hu ⊢
    exact s _ _ hu
def sp_pcoff : Sp := fun vs H Q _ => ∃ (m : Addr) (rows : List Addr) (n p : Nat) (Ls : Nat → List Nat) (ties : List (Nat × Nat)), vs = [.ref m, pI p] ∧ DN H m rows n Ls ∧ Tells n Ls (tieE ties) ∧ SyT (tieT ties) ∧ n ≤ 40 ∧ p < n ∧ ∀ (r : Addr) (F : Nat → Int) H', Same H H' → H r = none → H' r = some (.lst (rowF n F)) → PcO n (tieT ties) p F → Q (.ref r) H'
theorem cal_pcoff (A : At K mg "_pieces_off" s_pieces_off) (B : Bi mg) : Cal P w K mg base 1 "_pieces_off" sp_pcoff := by
  have nd := sc_pieces_off.nd
  refine A.cal sc_pieces_off (fun _ _ _ _ _ _ us hl => match us, hl with | [_, _], _ => rfl) ?_ fun f cdv A' outer s H vs Q E hr h => ⟨_, (pss_cons (ps_set (i := 2) nd rfl (.inl rfl) (pe_op op_rep (pe_lst (pa_cons (pe_un un_neg pe_int) pa_nil)) (pe_callB (call_lenK (K := K) rfl) (by rfl) B.len (by decide +kernel) (pa_cons (pv 0) pa_nil))))
  (pss_cons (ps_set (i := 3) nd rfl (.inl rfl) pe_int)
  (pss_cons (ps_for passOwn rfl (pi_range1 (by rfl) B.range (pa_cons (pe_callB (call_lenK (K := K) rfl) (by rfl) B.len (by decide +kernel) (pa_cons (pv 0) pa_nil)) pa_nil)) (pg_name (i := 4) nd rfl (.inl rfl)) (pss_cons (ps_if (PW.pt (pw_or (pt_cmpR op_ge (pe_ix (ix_listK (K := K) rfl) (pv 2) (pv 4) (fun _ _ => rfl)) pe_int (nomark _)) (pw_or (pt_cmpR op_eq (pv 4) (pv 1) (nomark _)) (pw_or1 (pt_cmp (pc_din (hu_of hr) (pv 4) (pe_ix (ix_listK (K := K) rfl) (pv 0) (pv 1) (fun _ _ => rfl))) rfl))))) (pss_one ps_continue) pss_nil)
  (pss_cons (ps_set (i := 5) nd rfl (.inl rfl) (pe_lst (pa_cons (pv 4) pa_nil)))
  (pss_cons (ps_asg (pv 3) (pg_sub (pv 2) (pv 4) set_list))
  (pss_cons (ps_while passOwn (pt_truthK (K := K) rfl (pv 5) (by intro _; rfl)) (pss_one (ps_lock (ps_for passOwn rfl (pi_keys (pe_ix (ix_listK (K := K) rfl) (pv 0) (pe_bm0 PySem.F.plainAttrs_list PySem.F.slot_list_pop PySem.F.type_list_pop mt_pop (pv 5)) (fun _ _ => rfl))) (pg_name (i := 6) nd rfl (.inl rfl)) (pss_one (ps_if (PW.pt (pw_and (pt_cmpR op_lt (pe_ix (ix_listK (K := K) rfl) (pv 2) (pv 6) (fun _ _ => rfl)) pe_int (nomark _)) (pw_and (pt_cmpR op_ne (pv 6) (pv 1) (nomark _)) (pw_and1 (pt_cmp (pc_dnotin (hu_of hr) (pv 6) (pe_ix (ix_listK (K := K) rfl) (pv 0) (pv 1) (fun _ _ => rfl))) rfl))))) (pss_cons (ps_asg (pv 3) (pg_sub (pv 2) (pv 6) set_list))
  (pss_one (ps_expr (pe_bm PySem.F.plainAttrs_list PySem.F.slot_list_append PySem.F.type_list_append mt_append (pv 5) (pa_cons (pv 6) pa_nil))))) pss_nil))))))
  (pss_one (ps_set (i := 3) nd rfl (.inl rfl) (pe_op op_add (pv 3) pe_int))))))))
  (pss_one (ps_ret (pv 2)))))), ?_⟩
  · rintro vs H Q E ⟨m, rows, n, p, Ls, ties, rfl, _⟩
    rfl
  · obtain ⟨m, rows, n, p, Ls, ties, rfl, hD, hT, S, h40, hp, q⟩ := h
    have lr : (rows.map V.ref).length = n := by rw [List.length_map]; exact hD.len
    obtain ⟨dp, hdp, hrp⟩ := hD.row hp
    have hr0 : ∀ {r : Addr}, H r = none → ∀ b, H b ≠ none → b ≠ r := fun h b hb e => hb (e ▸ h)
    refine ⟨_, rfl, by show 1 ≤ sizeLine; decide, fun p0 hp0 => ?_⟩
    have x0 := same_laid (o := .lst [V.int (-1)]) hp0
    refine ⟨_, rfl, _, _, rfl, .inl ⟨_, SqL.of (x0 _ _ hD.top), rfl⟩, ?_⟩
    rw [lr]
    refine ⟨p0, n, _, rfl, rfl, upd_same, by omega, by omega, by show 1 * (n : Int).toNat ≤ sizeLine; exact Nat.le_of_lt (sizeBig (by omega)), fun r hr0 => ?_⟩
    have x1 := x0.trans (same_laid (o := .lst (List.replicate ((n : Int).toNat) [V.int (-1)]).flatten) hr0)
    have hrH : H r = none := gone x0 hr0
    have hr1 : (upd (upd H p0 (.lst [V.int (-1)])) r (.lst (List.replicate ((n : Int).toNat) [V.int (-1)]).flatten)) r = some (.lst (rowF n fun _ => -1)) := by rw [upd_same, Int.toNat_natCast, rowF_rep]
    generalize (upd (upd H p0 (.lst [V.int (-1)])) r (.lst (List.replicate ((n : Int).toNat) [V.int (-1)]).flatten)) = H1 at x1 hr1
    refine ⟨_, rfl, _, _, rfl, .inl ⟨_, SqL.of (x1 _ _ hD.top), rfl⟩, ?_⟩
    rw [lr]
    refine ⟨_, rfl, by omega, by omega, ?_⟩
    refine for_range (lo := 0) (n := (n : Int).toNat) (fun i σ H2 => ∃ (F : Nat → Int) (many : Nat) (v4 v5 v6 : Option V), σ = [some (.ref m), some (pI p), some (.ref r), some (pI many), v4, v5, v6] ∧ Same H H2 ∧ H2 r = some (.lst (rowF n F)) ∧ PcI n (tieT ties) p i F many) ⟨_, 0, none, none, none, rfl, x1, hr1, PcI.start⟩ ?_ ?_
    · rintro i σ H2 hi ⟨F, many, v4, v5, v6, rfl, s2, hr2, I⟩
      have hin : i < n := by omega
      have e0 : ((0 : Int) + (i : Nat)) = ((i : Nat) : Int) := by omega
      rw [e0]
      have skip : (0 ≤ F i ∨ i = p ∨ tieT ties i p = true) → ∃ (F : Nat → Int) (many' : Nat) (v4 v5' v6' : Option V), [some (V.ref m), some (pI p), some (.ref r), some (pI many), some (pI i), v5, v6] = [some (V.ref m), some (pI p), some (.ref r), some (pI many'), v4, v5', v6'] ∧ Same H H2 ∧ H2 r = some (.lst (rowF n F)) ∧ PcI n (tieT ties) p (i + 1) F many' := fun k => ⟨F, many, _, _, _, rfl, s2, hr2, I.skip k⟩
      refine ⟨_, rfl, _, rfl, _, _, _, _, rfl, rfl, SqL.of hr2, atI_nat (j := i) (rowF_at hin), _, _, rfl, rfl, _, rfl, ifD (fun c => iteT (skip (.inl c))) (fun c => ?_)⟩
      refine ⟨_, rfl, _, rfl, rfl, _, rfl, ifI (fun c2 => iteT (skip (.inr (.inl (by omega))))) (fun c2 => ?_)⟩
      have c2 : i ≠ p := fun e => c2 (by rw [e])
      refine ⟨_, rfl, _, rfl, _, rfl, _, _, _, .ref dp, rfl, rfl, SqL.of (s2 _ _ hD.top), atI_nat (j := p) (by rw [List.getElem?_map, hdp]; rfl), dp, _, rfl, .inl ⟨_, .inl (i : Int), .inl (s2 _ _ hrp), rfl, rfl⟩, _, rfl, ?_⟩
      rw [ldK_has]
      refine ifD (fun c3 => ?_) (fun c3 => ?_)
      · have c3 : tieT ties p i = true := (hT.mem p i hp).mp c3
        exact skip (.inr (.inr (by rw [S.sy]; exact c3)))
      have c3 : tieT ties i p = false := by
        rw [S.sy]
        cases e : tieT ties p i
        · rfl
        · exact absurd ((hT.mem p i hp).mpr e) c3
      refine ⟨_, rfl, by show 1 ≤ sizeLine; decide, fun l hl => ?_⟩
      have s3 := s2.trans (same_laid (o := .lst [V.int (i : Int)]) hl)
      have hlH := gone s2 hl
      have hrl : r ≠ l := ne_of_none hr2 hl
      have hr3 := same_laid (o := .lst [V.int (i : Int)]) hl _ _ hr2
      have hl3 : (upd H2 l (.lst [V.int (i : Int)])) l = some (.lst [V.int (i : Int)]) := upd_same
      generalize (upd H2 l (.lst [V.int (i : Int)])) = H3 at s3 hr3 hl3 ⊢
      refine ⟨_, rfl, _, rfl, _, rfl, r, _, _, i, rfl, rfl, hr3, (by rw [rowF_len]; exact ixN_of hin), ?_⟩
      rw [show (rowF n F).set i (pI many) = rowF n (putF F i many) from rowF_set n F i many]
      have c1 : F i < 0 := by omega
      have s4 := sPut s3 (o := .lst (rowF n (putF F i many))) hrH
      have hr4 : (upd H3 r (.lst (rowF n (putF F i many)))) r = some (.lst (rowF n (putF F i many))) := upd_same
      have hl4 : (upd H3 r (.lst (rowF n (putF F i many)))) l = some (.lst ([i].map pI)) := by rw [upd_ne hrl.symm]; exact hl3
      have W0 := PcW.start I hin c1 c2 c3
      generalize (upd H3 r (.lst (rowF n (putF F i many)))) = H4 at s4 hr4 hl4 ⊢
      refine ⟨fun mm σ H5 => ∃ (G : Nat → Int) (op : List Nat) (v6 : Option V), σ = [some (.ref m), some (pI p), some (.ref r), some (pI many), some (pI i), some (.ref l), v6] ∧ Same H H5 ∧ H5 r = some (.lst (rowF n G)) ∧ H5 l = some (.lst (op.map pI)) ∧ PcW n (tieT ties) p F many i G op ∧ mm = 2 * ngF n G + op.length ∧ op.length + ngF n G ≤ n + 1, ⟨_, _, [i], v6, rfl, s4, hr4, hl4, W0, rfl, ?_⟩, ?_⟩
      · have := List.countP_le_length (p := fun x => decide (putF F i (many : Nat) x < 0)) (l := List.range n)
        rw [List.length_range] at this
        show 1 + ngF n (putF F i (many : Nat)) ≤ n + 1
        unfold ngF
        omega
      rintro mm σ H5 ⟨G, op, v6, rfl, s5, hr5, hl5, W, rfl, lop⟩
      refine ⟨_, rfl, _, tru_list hl5, ?_⟩
      rcases List.eq_nil_or_concat op with eop | ⟨op', x, eop⟩
      · subst eop
        refine iteF ?_
        refine ⟨_, rfl, _, _, rfl, rfl, ?_⟩
        exact ⟨G, many + 1, _, _, _, rfl, s5, hr5, W.done S I rfl c1⟩
      · rw [List.concat_eq_append] at eop
        subst eop
        have etr : (!((op' ++ [x]).map pI).isEmpty) = true := by cases op' <;> rfl
        rw [etr]
        refine iteT ?_
        obtain ⟨xn, xM⟩ := W.lf x (by simp)
        obtain ⟨_, xp, xnt⟩ := (W.off I xn xM).last
        obtain ⟨dx, hdx, hrx⟩ := hD.row xn
        have lx := hT.len xn
        have nxp : dx ≠ dp := fun e => xp ((List.getElem?_inj (List.getElem?_eq_some_iff.mp hdx).1 hD.nd).mp (hdx.trans (by rw [e]; exact hdp.symm)))
        have rdx : r ≠ dx := fun e => by rw [e, hrx] at hrH; cases hrH
        have ldx : l ≠ dx := fun e => by rw [e, hrx] at hlH; cases hlH
        have mdx : m ≠ dx := fun e => hD.off (by rw [e]; exact List.mem_of_getElem? hdx)
        have W2 : PcW n (tieT ties) p F many i G (x :: op') := W.same fun z => by simp [or_comm]
        refine ⟨fun σ' H' => ∃ (G' : Nat → Int) (op2 : List Nat) (v6 : Option V), σ' = [some (.ref m), some (pI p), some (.ref r), some (pI many), some (pI i), some (.ref l), v6] ∧ Same H H' ∧ H' r = some (.lst (rowF n G')) ∧ H' l = some (.lst (op2.map pI)) ∧ PcW n (tieT ties) p F many i G' op2 ∧ 2 * ngF n G' + op2.length < 2 * ngF n G + (op' ++ [x]).length ∧ op2.length + ngF n G' ≤ n + 1, ?_, ?_⟩
        · rintro σ' H' ⟨G', op2, v6, rfl, s', hr', hl', W', lt', l2'⟩
          exact ⟨_, lt', G', op2, v6, rfl, s', hr', hl', W', rfl, l2'⟩
        refine ⟨dx, _, s5 _ _ hrx, trivial, fun od => ?_⟩
        have sb : Same (upd H dx (.frz od (.dK (ldK (Ls x))))) (upd H5 dx (.frz od (.dK (ldK (Ls x))))) := same_onto s5
        have hl6 : (upd H5 dx (.frz od (.dK (ldK (Ls x))))) l = some (.lst ((op' ++ [x]).map pI)) := by rw [upd_ne ldx]; exact hl5
        have hr6 : (upd H5 dx (.frz od (.dK (ldK (Ls x))))) r = some (.lst (rowF n G)) := by rw [upd_ne rdx]; exact hr5
        have bl : (upd H dx (.frz od (.dK (ldK (Ls x))))) l = none := by rw [upd_ne ldx]; exact hlH
        have br : (upd H dx (.frz od (.dK (ldK (Ls x))))) r = none := by rw [upd_ne rdx]; exact hrH
        have bm : (upd H dx (.frz od (.dK (ldK (Ls x))))) m = some (.lst (rows.map V.ref)) := by rw [upd_ne mdx]; exact hD.top
        have bp : (upd H dx (.frz od (.dK (ldK (Ls x))))) dp = some (.dK (ldK (Ls p))) := by rw [upd_ne nxp.symm]; exact hrp
        refine ⟨_, rfl, _, rfl, .inl ⟨rfl, _, SqL.of hl6⟩, l, _, pI x, rfl, rfl, hl6, by simp, ?_⟩
        have edl : ((op' ++ [x]).map pI).dropLast = op'.map pI := by rw [← List.map_dropLast, List.dropLast_concat]
        rw [edl]
        have s6 := sPut sb (o := .lst (op'.map pI)) bl
        have hl7 : (upd (upd H5 dx (.frz od (.dK (ldK (Ls x))))) l (.lst (op'.map pI))) l = some (.lst (op'.map pI)) := upd_same
        have hr7 : (upd (upd H5 dx (.frz od (.dK (ldK (Ls x))))) l (.lst (op'.map pI))) r = some (.lst (rowF n G)) := by rw [upd_ne hrl]; exact hr6
        generalize (upd (upd H5 dx (.frz od (.dK (ldK (Ls x))))) l (.lst (op'.map pI))) = H6 at s6 hl7 hr7 ⊢
        have lop' : (op' ++ [x]).length = op'.length + 1 := by simp
        refine ⟨m, _, _, .ref dx, rfl, rfl, SqL.of (s6 _ _ bm), atI_nat (j := x) (by rw [List.getElem?_map, hdx]; rfl), dx, od, rfl, .inl ⟨_, s6 _ _ upd_same, ?_⟩⟩
        refine for_it walk_keys (fun k σ H7 => ∃ (G' : Nat → Int) (op2 : List Nat) (v6 : Option V), σ = [some (.ref m), some (pI p), some (.ref r), some (pI many), some (pI i), some (.ref l), v6] ∧ Same (upd H dx (.frz od (.dK (ldK (Ls x))))) H7 ∧ H7 r = some (.lst (rowF n G')) ∧ H7 l = some (.lst (op2.map pI)) ∧ PcW n (tieT ties) p F many i G' (x :: op2) ∧ (∀ y ∈ (Ls x).take k, y ≠ p → tieT ties y p = false → 0 ≤ G' y) ∧ 2 * ngF n G' + op2.length ≤ 2 * ngF n G + op'.length ∧ op2.length + ngF n G' ≤ n) ⟨G, op', v6, rfl, s6, hr7, hl7, W2, (fun y hy => by simp at hy), Nat.le_refl _, by omega⟩ (fun k σ H7 _ ⟨_, _, _, _, s7, _⟩ => s7 _ _ upd_same) ?_ ?_
        · rintro k kv σ H7o H7 hk ⟨G', op2, v6, rfl, s7, hr8, hl8, W3, hdone, l3, l4⟩ ⟨rfl, ky, vv, hkv, rfl⟩
          unfold ldK at hkv
          rw [List.getElem?_map] at hkv
          obtain ⟨y, hy, ee⟩ := Option.map_eq_some_iff.mp hkv
          obtain ⟨rfl, rfl⟩ := Prod.mk.inj ee
          have tx : tieT ties x y = true := (hT.mem x y xn).mp (List.mem_of_getElem? hy)
          have yn := (hT.lt x y tx).2
          have etk : (Ls x).take (k + 1) = (Ls x).take k ++ [y] := by rw [List.take_add_one, hy]; rfl
          have skip : (0 ≤ G' y ∨ y = p ∨ tieT ties y p = true) → ∃ (G2 : Nat → Int) (op3 : List Nat) (v6 : Option V), [some (V.ref m), some (pI p), some (.ref r), some (pI many), some (pI i), some (.ref l), some (pI y)] = [some (V.ref m), some (pI p), some (.ref r), some (pI many), some (pI i), some (.ref l), v6] ∧ Same (upd H dx (.frz od (.dK (ldK (Ls x))))) H7 ∧ H7 r = some (.lst (rowF n G2)) ∧ H7 l = some (.lst (op3.map pI)) ∧ PcW n (tieT ties) p F many i G2 (x :: op3) ∧ (∀ y ∈ (Ls x).take (k + 1), y ≠ p → tieT ties y p = false → 0 ≤ G2 y) ∧ 2 * ngF n G2 + op3.length ≤ 2 * ngF n G + op'.length ∧ op3.length + ngF n G2 ≤ n := fun hs => by
            refine ⟨G', op2, _, rfl, s7, hr8, hl8, W3, fun z hz nz ntz => ?_, l3, l4⟩
            rw [etk] at hz
            rcases List.mem_append.mp hz with hz | hz
            · exact hdone z hz nz ntz
            · rw [List.mem_singleton.mp hz] at nz ntz ⊢
              rcases hs with e | e | e
              · exact e
              · exact absurd e nz
              · rw [ntz] at e
                cases e
          refine ⟨_, rfl, _, rfl, _, _, _, _, rfl, rfl, SqL.of hr8, atI_nat (j := y) (rowF_at yn), _, _, rfl, rfl, _, rfl, ifD (fun c5 => ?_) (fun c5 => iteF (skip (.inl (by omega))))⟩
          refine ⟨_, rfl, _, rfl, rfl, _, rfl, ifNI (fun c6 => ?_) (fun c6 => iteF (skip (.inr (.inl (by omega)))))⟩
          have c6 : y ≠ p := fun e => c6 (by rw [e])
          refine ⟨_, rfl, _, rfl, _, rfl, _, _, _, .ref dp, rfl, rfl, SqL.of (s7 _ _ bm), atI_nat (j := p) (by rw [List.getElem?_map, hdp]; rfl), dp, _, rfl, .inl ⟨_, .inl (y : Int), .inl (s7 _ _ bp), rfl, rfl⟩, _, rfl, ?_⟩
          rw [ldK_has]
          refine ifN (fun c7 => ?_) (fun c7 => skip (.inr (.inr (by rw [S.sy]; exact (hT.mem p y hp).mp (of_decide_eq_true c7)))))
          have c7 : tieT ties y p = false := by
            rw [S.sy]
            cases e : tieT ties p y
            · rfl
            · exact absurd ((hT.mem p y hp).mpr e) (of_decide_eq_false c7)
          have c5 : G' y < 0 := c5
          refine ⟨_, rfl, _, rfl, _, rfl, r, _, _, y, rfl, rfl, hr8, (by rw [rowF_len]; exact ixN_of yn), ?_⟩
          rw [show (rowF n G').set y (pI many) = rowF n (putF G' y many) from rowF_set n G' y many]
          have s8 := sPut s7 (o := .lst (rowF n (putF G' y many))) br
          have hr9 : (upd H7 r (.lst (rowF n (putF G' y many)))) r = some (.lst (rowF n (putF G' y many))) := upd_same
          have hl9 : (upd H7 r (.lst (rowF n (putF G' y many)))) l = some (.lst (op2.map pI)) := by rw [upd_ne hrl.symm]; exact hl8
          generalize (upd H7 r (.lst (rowF n (putF G' y many)))) = H8 at s8 hr9 hl9 ⊢
          have hng := ng_put (n := n) (v := (many : Int)) yn c5 (by omega)
          refine ⟨_, rfl, .inl ⟨rfl, _, SqL.of hl9⟩, _, rfl, l, _, _, rfl, rfl, hl9, by rw [List.length_map]; exact sizeBig (by omega), ?_⟩
          have W4 := W3.mark I (x := x) (List.mem_cons_self ..) yn tx c5 c6 c7
          refine ⟨_, op2 ++ [y], _, rfl, sPut s8 bl, by rw [upd_ne hrl]; exact hr9, by rw [upd_same, List.map_append]; rfl, W4, fun z hz nz ntz => ?_, by rw [List.length_append, List.length_singleton]; omega, by rw [List.length_append, List.length_singleton]; omega⟩
          unfold putF
          split
          · omega
          · rename_i zy
            rw [etk] at hz
            rcases List.mem_append.mp hz with hz | hz
            · exact hdone z hz nz ntz
            · exact absurd (List.mem_singleton.mp hz) zy
        · rintro σ H7 ⟨G', op2, v6, rfl, s7, hr8, hl8, W3, hdone, l3, l4⟩
          rw [ldK_len, List.take_length] at hdone
          refine ⟨s7 _ _ upd_same, G', op2, v6, rfl, lock_back hrx s7, by rw [upd_ne rdx]; exact hr8, by rw [upd_ne ldx]; exact hl8, W3.shut fun y yn ty yp ntp => hdone y ((hT.mem x y xn).mpr ty) yp ntp, by omega, by omega⟩
    · rintro σ H2 ⟨F, many, v4, v5, v6, rfl, s2, hr2, I⟩
      rw [Int.toNat_natCast] at I
      exact ⟨_, rfl, q r F H2 s2 hrH hr2 I.done⟩
end
end Ns
/-! Own layer: a claw. -/
namespace Ns
open PySem PySem.Spec PyProof.Rows L2
local macro_rules | `(tactic| walk_at "look") => `(tactic| first | assumption | exact upd_same | (refine (upd_ne (by first | assumption | exact Ne.symm (by assumption))).trans ?_; walk_at "look"))
local macro_rules | `(tactic| walk_at "cond") => `(tactic| first | assumption | omega | (dsimp only; omega) | exact ⟨by omega, by omega⟩ | decide | exact ⟨by decide, by decide, by decide⟩ | exact .inr ⟨by decide, by decide⟩ | exact .inl ⟨by decide, by decide⟩ | exact .inr ⟨by omega, by omega⟩ | exact .inl ⟨by omega, by omega⟩)
local macro_rules | `(tactic| walk_at "rd1") => `(tactic| first
  | refine ⟨_, rfl, ?_⟩
  | refine ⟨_, _, rfl, rfl, ?_⟩
  | refine ⟨rfl, ?_⟩
  | refine ⟨_, _, rfl, rfl, (by walk_at "cond"), ?_⟩
  | refine ⟨_, _, _, _, rfl, rfl, SqL.of (by walk_at "look"), rfl, ?_⟩
  | refine ⟨_, _, _, _, rfl, rfl, SqT.of (by walk_at "look"), rfl, ?_⟩
  | refine ⟨_, _, _, _, rfl, rfl, (by walk_at "look"), rfl, ?_⟩
  | refine .inl ⟨_, rfl, ?_⟩
  | refine ⟨.inl ⟨rfl, _, SqL.of (by walk_at "look")⟩, ?_⟩
  | refine ⟨_, _, rfl, ⟨by omega, by omega, by omega, by omega⟩, ?_⟩
  | refine ⟨_, rfl, (by omega), (by omega), ?_⟩
  | refine And.intro (by walk_at "cond") ?_)
local macro_rules | `(tactic| walk_at "rd") => `(tactic| repeat (walk_at "rd1"))
abbrev N_claw : List Str := ["net", "near", "c", "row", "i", "x", "apart", "k", "y", "z"]
theorem sc_claw : FnScope N_claw ["net"] (defScope s_claw) := ⟨rfl, rfl, rfl, by decide +kernel, rfl, by decide +kernel, by decide +kernel⟩
section
variable {P : Program} {w : World} {K : PySem.W.Frag} {mg : Str → Option Value} {base : Heap}
def ClawOut (H : Hp) (n : Nat) (T : Tm) (u : V) : Prop := (u = .non ∧ NoClaw n T) ∨ ∃ (t : Addr) (c x y z : Nat), u = .ref t ∧ H t = some (.tup [.str "claw", pI c, pI x, pI y, pI z]) ∧ c < n ∧ x < n ∧ y < n ∧ z < n ∧ x ≠ y ∧ x ≠ z ∧ y ≠ z ∧ T c x = true ∧ T c y = true ∧ T c z = true ∧ T x y = false ∧ T x z = false ∧ T y z = false
def sp_claw : Sp := fun vs H Q _ => ∃ (v : V) (n : Nat) (ties : List (Nat × Nat)), vs = [v] ∧ Net H v n ties ∧ n ≤ 40 ∧ Good n ties ∧ SyT (tieT ties) ∧ ∀ (u : V) H', Same H H' → ClawOut H' n (tieT ties) u → Q u H'
theorem sorted_pts {ns : List Int} {C : List Nat} (pm : ns.Perm (C.map fun x : Nat => (x : Int))) (so : ns.Pairwise (· ≤ ·)) (nd : C.Nodup) : ∃ D : List Nat, ns.map V.int = D.map pI ∧ D.Perm C ∧ D.Pairwise (· < ·) := by
  have e1 : (C.map fun x : Nat => (x : Int)).map Int.toNat = C := by
    rw [List.map_map]
    exact (List.map_congr_left fun x _ => Int.toNat_natCast x).trans (List.map_id _)
  have pm2 : (ns.map Int.toNat).Perm C := by
    have := pm.map Int.toNat
    rwa [e1] at this
  have e2 : (ns.map Int.toNat).map (fun x : Nat => (x : Int)) = ns := by
    rw [List.map_map]
    refine (List.map_congr_left fun z hz => ?_).trans (List.map_id _)
    obtain ⟨x, _, rfl⟩ := List.mem_map.mp (pm.mem_iff.mp hz)
    rfl
  refine ⟨ns.map Int.toNat, by rw [show (ns.map Int.toNat).map pI = ((ns.map Int.toNat).map (fun x : Nat => (x : Int))).map V.int from by rw [List.map_map, List.map_map, List.map_map]; rfl, e2], pm2, ?_⟩
  have nd2 : (ns.map Int.toNat).Nodup := pm2.nodup_iff.mpr nd
  rw [← e2, List.pairwise_map] at so
  exact (so.and nd2).imp fun {a b} h => by
    have := h.1
    have := h.2
    omega
theorem mem_past {D : List Nat} (so : D.Pairwise (· < ·)) {i x y : Nat} (h : D[i]? = some x) : y ∈ D.drop (i + 1) ↔ y ∈ D ∧ x < y := by
  obtain ⟨hi, hx⟩ := List.getElem?_eq_some_iff.mp h
  have e : D = D.take i ++ x :: D.drop (i + 1) := by
    rw [← hx, ← List.drop_eq_getElem_cons hi, List.take_append_drop]
  have so2 := so
  rw [e, List.pairwise_append, List.pairwise_cons] at so2
  constructor
  · exact fun k => ⟨List.mem_of_mem_drop k, so2.2.1.1 y k⟩
  · rintro ⟨k, l⟩
    rw [e] at k
    rcases List.mem_append.mp k with k | k
    · have := so2.2.2 y k x (List.mem_cons_self ..)
      omega
    · rcases List.mem_cons.mp k with k | k
      · omega
      · exact k
theorem cutV_past {xs : List V} {k : Nat} : cutV xs (some (k : Int)) none = xs.drop k := by
  show ((xs.drop (HT.sIx xs.length 0 (some (k : Int)))).take (xs.length - HT.sIx xs.length 0 (some (k : Int)))) = _
  rw [HT.sIx_nat]
  by_cases h : k ≤ xs.length
  · rw [Nat.min_eq_left h, List.take_of_length_le (by rw [List.length_drop]; omega)]
  · rw [Nat.min_eq_right (by omega), List.drop_of_length_le (Nat.le_refl _), List.drop_of_length_le (by omega), List.take_nil]
theorem cal_claw (A : At K mg "_claw" s_claw) (B : Bi mg) (c_neighbours_arrows : Cal P w K mg base 1 "neighbours_arrows" sp_nearA) : Cal P w K mg base 2 "_claw" sp_claw := by
  have nd := sc_claw.nd
  refine A.cal sc_claw (fun _ _ _ _ _ _ us hl => match us, hl with | [_], _ => rfl) ?_ fun f cdv A' outer s H vs Q E hr h => ⟨_, (pss_cons (ps_set (i := 1) nd rfl (.inr rfl) (pe_cal c_neighbours_arrows hr (by first | decide | omega) (by rfl) passE (pa_cons (pv 0) pa_nil)))
  (pss_cons (ps_for passOwn rfl (pi_range1 (by rfl) B.range (pa_cons (pe_ix (ix_tupK (K := K) rfl) (pv 0) pe_int (fun _ _ => rfl)) pa_nil)) (pg_name (i := 2) nd rfl (.inl rfl)) (pss_cons (ps_set (i := 3) nd rfl (.inl rfl) (pe_callB (cr_sortedKI rfl) (by rfl) B.sorted (by decide +kernel) (pa_cons (pe_ix (ix_listK (K := K) rfl) (pv 1) (pv 2) (fun _ _ => rfl)) pa_nil)))
  (pss_one (ps_for passOwn rfl (pi_enumK (K := K) rfl (by rfl) B.enumerate (pa_cons (pv 3) pa_nil)) (pg_tupK (K := K) (n := 2) rfl rfl (pgs_cons (pg_name (i := 4) nd rfl (.inl rfl)) (pgs_cons (pg_name (i := 5) nd rfl (.inr rfl)) pgs_nil))) (pss_cons (ps_setLc (i := 6) (own := [("y", 8)]) rfl nd rfl rfl (sw_true rfl rfl rfl (by decide +kernel)) (pi_listK (K := K) rfl (pe_slice (sl_listK (K := K) rfl) (pv 3) (po_some (pe_op op_add (pv 4) pe_int)) po_none)) (blkOk_by (own := [("y", 8)]) (N := N_claw) (sc := defScope s_claw) (by decide +kernel)) (fun _ _ _ _ _ => (pg_name (i := 8) nd rfl (.inl rfl) (.inr rfl))) (fun _ _ _ _ _ => (pts_one (pt_cmp (pc_dnotin (hu_of hr) (pv 8) (pe_ix (ix_listK (K := K) rfl) (pv 1) (pv 5) (fun _ _ => rfl))) rfl))) (fun _ _ _ _ _ => (pv 8)))
  (pss_one (ps_for passOwn rfl (pi_enumK (K := K) rfl (by rfl) B.enumerate (pa_cons (pv 6) pa_nil)) (pg_tupK (K := K) (n := 2) rfl rfl (pgs_cons (pg_name (i := 7) nd rfl (.inl rfl)) (pgs_cons (pg_name (i := 8) nd rfl (.inl rfl)) pgs_nil))) (pss_one (ps_for passOwn rfl (pi_listK (K := K) rfl (pe_slice (sl_listK (K := K) rfl) (pv 6) (po_some (pe_op op_add (pv 7) pe_int)) po_none)) (pg_name (i := 9) nd rfl (.inl rfl)) (pss_one (ps_if (pt_cmp (pc_dnotin (hu_of hr) (pv 9) (pe_ix (ix_listK (K := K) rfl) (pv 1) (pv 8) (fun _ _ => rfl))) rfl) (pss_one (ps_ret (pe_tup (pa_cons pe_str (pa_cons (pv 2) (pa_cons (pv 5) (pa_cons (pv 8) (pa_cons (pv 9) pa_nil)))))))) pss_nil)))))))))))
  (pss_one (ps_ret pe_non)))), ?_⟩
  · rintro vs H Q E ⟨v, n, ties, rfl, _⟩
    rfl
  · obtain ⟨v, n, ties, rfl, hN, h40, hg, S, q⟩ := h
    refine ⟨_, rfl, v, n, ties, rfl, hN, h40, hg, fun m rows Ls H1 s1 _ _ hD hT => ?_⟩
    obtain ⟨t0, u0, rfl, h0, _⟩ := id (hN.keep (sKt s1))
    refine ⟨_, rfl, _, _, _, _, rfl, rfl, SqT.of h0, rfl, _, rfl, by omega, by omega, ?_⟩
    refine for_range (lo := 0) (n := (n : Int).toNat) (fun i σ H2 => ∃ (v2 v3 v4 v5 v6 v7 v8 v9 : Option V), σ = [some (.ref t0), some (.ref m), v2, v3, v4, v5, v6, v7, v8, v9] ∧ Same H1 H2 ∧ ∀ c x y z, c < i → x < y → y < z → z < n → tieT ties c x = true → tieT ties c y = true → tieT ties c z = true → tieT ties x y = false → tieT ties x z = false → tieT ties y z = true) ⟨none, none, none, none, none, none, none, none, rfl, Same.refl _, fun c x y z h => absurd h (by omega)⟩ ?_ ?_
    · rintro c σ H2 hc ⟨v2, v3, v4, v5, v6, v7, v8, v9, rfl, s2, I⟩
      have hcn : c < n := by omega
      have e0 : ((0 : Int) + (c : Nat)) = ((c : Nat) : Int) := by omega
      rw [e0]
      have D2 := hD.same s2
      obtain ⟨dc, hdc, hrc⟩ := D2.row hcn
      refine ⟨_, rfl, _, rfl, m, _, _, .ref dc, rfl, rfl, SqL.of D2.top, atI_nat (j := c) (by rw [List.getElem?_map, hdc]; rfl), dc, _, (Ls c).map fun x : Nat => (x : Int), rfl, hrc, by unfold ldK; rw [List.map_map, List.map_map]; rfl, fun ns r pm so hr0 => ?_⟩
      obtain ⟨D, eD, pD, soD⟩ := sorted_pts pm so (hT.nd c hcn)
      rw [eD]
      have mD : ∀ y, y ∈ D ↔ tieT ties c y = true := fun y => by rw [pD.mem_iff]; exact hT.mem c y hcn
      have lD : D.length ≤ n := by rw [pD.length_eq]; exact hT.len hcn
      have s3 := s2.trans (same_laid (o := .lst (D.map pI)) hr0)
      have hr3 : (upd H2 r (.lst (D.map pI))) r = some (.lst (D.map pI)) := upd_same
      have x23 := same_laid (o := .lst (D.map pI)) hr0
      generalize (upd H2 r (.lst (D.map pI))) = H3 at s3 hr3 x23 ⊢
      have ltD : ∀ y, y ∈ D → y < n := fun y hy => (hT.lt c y ((mD y).mp hy)).2
      refine ⟨_, rfl, _, _, rfl, SqL.of hr3, ?_⟩
      refine for_it (walk_enum (K := K) (a := r) (xs := D.map pI)) (fun i σ H4 => ∃ (v4 v5 v6 v7 v8 v9 : Option V), σ = [some (.ref t0), some (.ref m), some (pI c), some (.ref r), v4, v5, v6, v7, v8, v9] ∧ Same H3 H4 ∧ ∀ x y z, x ∈ D.take i → y ∈ D → z ∈ D → x < y → y < z → tieT ties x y = false → tieT ties x z = false → tieT ties y z = true) ⟨v4, v5, v6, v7, v8, v9, rfl, Same.refl _, fun x y z h => nomatch h⟩ (fun i σ H4 _ ⟨_, _, _, _, _, _, _, s4, _⟩ => SqL.of (s4 _ _ hr3)) ?_ ?_
      · rintro i xv σ H4o H4 hi ⟨v4, v5, v6, v7, v8, v9, rfl, s4, I4⟩ ⟨tt, e1, e2, rfl, nt, rfl, h3, h4⟩
        rw [List.length_map] at hi
        have e3 : V.int (i : Nat) = e1 := Option.some.inj h3
        subst e3
        dsimp only at h4
        rw [List.getElem?_map] at h4
        obtain ⟨x, hx, rfl⟩ := Option.map_eq_some_iff.mp h4
        have xD := List.mem_of_getElem? hx
        have xn := ltD x xD
        have etk : D.take (i + 1) = D.take i ++ [x] := by rw [List.take_add_one, hx]; rfl
        have s5 := s4.trans (same_laid (o := .tup [.int (i : Nat), pI x]) nt)
        have htt : (upd H4o tt (.tup [.int (i : Nat), pI x])) tt = some (.tup [.int (i : Nat), pI x]) := upd_same
        generalize (upd H4o tt (.tup [.int (i : Nat), pI x])) = H5 at s5 htt ⊢
        refine ⟨tt, _, rfl, SqT.of htt, rfl, _, _, rfl, _, _, rfl, rfl, ?_⟩
        obtain ⟨dx, hdx, hrx⟩ := ((D2.same x23).same s5).row xn
        have hmx := (D2.same x23).top
        refine ⟨_, rfl, _, rfl, _, _, rfl, rfl, (((i + 1 : Nat)) : Int), rfl, r, _, rfl, SqL.of (s5 _ _ hr3), fun l hl => ?_⟩
        rw [cutV_past, ← List.map_drop]
        have s6 := s5.trans (same_laid (o := .lst ((D.drop (i + 1)).map pI)) hl)
        have hl6 : (upd H5 l (.lst ((D.drop (i + 1)).map pI))) l = some (.lst ((D.drop (i + 1)).map pI)) := upd_same
        have x56 := same_laid (o := .lst ((D.drop (i + 1)).map pI)) hl
        generalize (upd H5 l (.lst ((D.drop (i + 1)).map pI))) = H6 at s6 hl6 x56 ⊢
        refine ⟨l, rfl, ⟨_, SqL.of hl6⟩, fun F hF => ?_⟩
        refine turns_it (walk_list (K := K) (a := l) (xs := (D.drop (i + 1)).map pI)) (fun j H7 => Same H6 H7 ∧ H7 F = some (.lst ((((D.drop (i + 1)).take j).filter fun y => !decide (y ∈ Ls x)).map pI))) ⟨same_laid hF, upd_same⟩ (fun j H7 _ ⟨s7, _⟩ => SqL.of (s7 _ _ hl6)) ?_ ?_
        · rintro j yv H7 H7' hj ⟨s7, hF7⟩ ⟨rfl, hy⟩
          rw [List.getElem?_map] at hy
          obtain ⟨y, hy2, rfl⟩ := Option.map_eq_some_iff.mp hy
          refine ⟨rfl, _, rfl, _, rfl, _, rfl, _, _, _, .ref dx, rfl, rfl, SqL.of (s7 _ _ (s6 _ _ hmx)), atI_nat (j := x) (by rw [List.getElem?_map, hdx]; rfl), dx, _, rfl, .inl ⟨_, .inl (y : Int), .inl (s7 _ _ (x56 _ _ hrx)), rfl, rfl⟩, _, rfl, ?_⟩
          rw [ldK_has]
          have er : ((D.drop (i + 1)).take (j + 1)).filter (fun y => !decide (y ∈ Ls x)) = ((D.drop (i + 1)).take j).filter (fun y => !decide (y ∈ Ls x)) ++ (if y ∈ Ls x then [] else [y]) := by
            rw [List.take_add_one, hy2, List.filter_append]
            show _ ++ List.filter _ [y] = _
            rw [List.filter_cons]
            by_cases e : y ∈ Ls x
            · rw [if_pos e, decide_eq_true e]; rfl
            · rw [if_neg e, decide_eq_false e]; rfl
          refine ifN (fun k => ?_) (fun k => ?_)
          · have k := of_decide_eq_false k
            rw [if_neg k] at er
            refine ⟨_, rfl, _, hF7, ?_, sPut s7 hF, ?_⟩
            · rw [List.length_map]
              have := List.length_filter_le (fun y => !decide (y ∈ Ls x)) ((D.drop (i + 1)).take j)
              rw [List.length_take, List.length_drop] at this
              exact sizeBig (by omega)
            · rw [upd_same, er, List.map_append]
              rfl
          · have k := of_decide_eq_true k
            rw [if_pos k, List.append_nil] at er
            refine ⟨s7, ?_⟩
            rw [er]
            exact hF7
        rintro H7 ⟨s7, hF7⟩
        rw [List.length_map, List.take_length] at hF7
        obtain ⟨Ap, eAp⟩ : ∃ Ap : List Nat, Ap = (D.drop (i + 1)).filter fun y => !decide (y ∈ Ls x) := ⟨_, rfl⟩
        rw [← eAp] at hF7
        have mAp : ∀ y, y ∈ Ap ↔ (y ∈ D ∧ x < y) ∧ tieT ties x y = false := fun y => by
          rw [eAp, List.mem_filter, mem_past soD hx, Bool.not_eq_true', decide_eq_false_iff_not, hT.mem x y xn]
          exact and_congr_right fun _ => by show (¬ tieT ties x y = true) ↔ _; cases tieT ties x y <;> simp
        have soA : Ap.Pairwise (· < ·) := by
          rw [eAp]
          exact (soD.sublist (List.drop_sublist _ _)).sublist (List.filter_sublist ..)
        have lA : Ap.length ≤ n := by
          rw [eAp]
          refine Nat.le_trans (List.length_filter_le _ _) ?_
          rw [List.length_drop]
          omega
        clear eAp
        refine ⟨_, rfl, _, _, rfl, SqL.of hF7, ?_⟩
        refine for_it (walk_enum (K := K) (a := F) (xs := Ap.map pI)) (fun k σ H8 => ∃ (v7 v8 v9 : Option V), σ = [some (.ref t0), some (.ref m), some (pI c), some (.ref r), some (pI i), some (pI x), some (.ref F), v7, v8, v9] ∧ Same H7 H8 ∧ ∀ y z, y ∈ Ap.take k → z ∈ Ap → y < z → tieT ties y z = true) ⟨v7, v8, v9, rfl, Same.refl _, fun y z h => nomatch h⟩ (fun k σ H8 _ ⟨_, _, _, _, s8, _⟩ => SqL.of (s8 _ _ hF7)) ?_ ?_
        · rintro k xv σ H8o H8 hk ⟨v7, v8, v9, rfl, s8, I8⟩ ⟨tt2, e1, e2, rfl, nt2, rfl, h3, h4⟩
          rw [List.length_map] at hk
          have e3 : V.int (k : Nat) = e1 := Option.some.inj h3
          subst e3
          dsimp only at h4
          rw [List.getElem?_map] at h4
          obtain ⟨y, hy, rfl⟩ := Option.map_eq_some_iff.mp h4
          have yA := List.mem_of_getElem? hy
          obtain ⟨⟨yD, xy⟩, nxy⟩ := (mAp y).mp yA
          have yn := ltD y yD
          have ytk : Ap.take (k + 1) = Ap.take k ++ [y] := by rw [List.take_add_one, hy]; rfl
          have s9 := s8.trans (same_laid (o := .tup [.int (k : Nat), pI y]) nt2)
          have htt2 : (upd H8o tt2 (.tup [.int (k : Nat), pI y])) tt2 = some (.tup [.int (k : Nat), pI y]) := upd_same
          generalize (upd H8o tt2 (.tup [.int (k : Nat), pI y])) = H9 at s9 htt2 ⊢
          refine ⟨tt2, _, rfl, SqT.of htt2, rfl, _, _, rfl, _, _, rfl, rfl, ?_⟩
          have s39 := (s6.trans s7).trans s9
          obtain ⟨dy, hdy, hry⟩ := ((D2.same x23).same s39).row yn
          have hmy := ((D2.same x23).same s39).top
          refine ⟨_, rfl, _, rfl, _, _, rfl, rfl, (((k + 1 : Nat)) : Int), rfl, F, _, rfl, SqL.of (s9 _ _ hF7), fun l2 hl2 => ?_⟩
          rw [cutV_past, ← List.map_drop]
          have x9 := same_laid (o := .lst ((Ap.drop (k + 1)).map pI)) hl2
          have hl10 : (upd H9 l2 (.lst ((Ap.drop (k + 1)).map pI))) l2 = some (.lst ((Ap.drop (k + 1)).map pI)) := upd_same
          generalize (upd H9 l2 (.lst ((Ap.drop (k + 1)).map pI))) = H10 at x9 hl10 ⊢
          refine ⟨l2, rfl, ⟨_, SqL.of hl10⟩, ?_⟩
          refine for_it (walk_list (K := K) (a := l2) (xs := (Ap.drop (k + 1)).map pI)) (fun j σ H11 => ∃ (v9 : Option V), σ = [some (.ref t0), some (.ref m), some (pI c), some (.ref r), some (pI i), some (pI x), some (.ref F), some (pI k), some (pI y), v9] ∧ H11 = H10 ∧ ∀ z, z ∈ (Ap.drop (k + 1)).take j → tieT ties y z = true) ⟨v9, rfl, rfl, fun z h => nomatch h⟩ (fun j σ H11 _ ⟨_, _, e, _⟩ => e ▸ SqL.of hl10) ?_ ?_
          · rintro j zv σ H11 H11' hj ⟨v9, rfl, rfl, I11⟩ ⟨rfl, hz⟩
            rw [List.getElem?_map] at hz
            obtain ⟨z, hz2, rfl⟩ := Option.map_eq_some_iff.mp hz
            obtain ⟨zA, yz⟩ := (mem_past soA hy).mp (List.mem_of_getElem? hz2)
            obtain ⟨⟨zD, xz⟩, nxz⟩ := (mAp z).mp zA
            refine ⟨_, rfl, _, rfl, _, rfl, _, _, _, .ref dy, rfl, rfl, SqL.of (x9 _ _ hmy), atI_nat (j := y) (by rw [List.getElem?_map, hdy]; rfl), dy, _, rfl, .inl ⟨_, .inl (z : Int), .inl (x9 _ _ hry), rfl, rfl⟩, _, rfl, ?_⟩
            rw [ldK_has]
            refine ifN (fun c7 => ?_) (fun c7 => ?_)
            · have c7 : tieT ties y z = false := by
                cases e : tieT ties y z
                · rfl
                · exact absurd ((hT.mem y z yn).mpr e) (of_decide_eq_false c7)
              refine ⟨_, rfl, _, rfl, _, rfl, _, rfl, by show 5 ≤ sizeLine; decide, fun t ht => ?_⟩
              exact q _ _ ((s1.trans (s3.trans (s39.trans x9))).trans (same_laid ht)) (.inr ⟨t, c, x, y, z, rfl, upd_same, hcn, xn, yn, ltD z zD, by omega, by omega, by omega, (mD x).mp xD, (mD y).mp yD, (mD z).mp zD, nxy, nxz, c7⟩)
            · refine ⟨_, rfl, rfl, fun z' h => ?_⟩
              rw [List.take_add_one, hz2] at h
              rcases List.mem_append.mp h with h | h
              · exact I11 z' h
              · rw [List.mem_singleton.mp h]
                exact (hT.mem y z yn).mp (of_decide_eq_true c7)
          · rintro σ H11 ⟨v9, rfl, rfl, I11⟩
            rw [List.length_map, List.take_length] at I11
            refine ⟨_, _, _, rfl, s9.trans x9, fun y' z' h1 h2 h3 => ?_⟩
            rw [ytk] at h1
            rcases List.mem_append.mp h1 with h1 | h1
            · exact I8 y' z' h1 h2 h3
            · rw [List.mem_singleton.mp h1] at h3 ⊢
              exact I11 z' ((mem_past soA hy).mpr ⟨h2, h3⟩)
        · rintro σ H8 ⟨v7, v8, v9, rfl, s8, I8⟩
          rw [List.length_map, List.take_length] at I8
          refine ⟨_, _, _, _, _, _, rfl, (s6.trans s7).trans s8, fun x' y' z' h1 h2 h3 h4 h5 h6 h7 => ?_⟩
          rw [etk] at h1
          rcases List.mem_append.mp h1 with h1 | h1
          · exact I4 x' y' z' h1 h2 h3 h4 h5 h6 h7
          · rw [List.mem_singleton.mp h1] at h4 h6 h7
            exact I8 y' z' ((mAp y').mpr ⟨⟨h2, h4⟩, h6⟩) ((mAp z').mpr ⟨⟨h3, by omega⟩, h7⟩) h5
      · rintro σ H4 ⟨v4, v5, v6, v7, v8, v9, rfl, s4, I4⟩
        rw [List.length_map, List.take_length] at I4
        refine ⟨_, _, _, _, _, _, _, _, rfl, s3.trans s4, fun c' x y z h1 h2 h3 h4 t1 t2 t3 t4 t5 => ?_⟩
        by_cases e : c' = c
        · rw [e] at t1 t2 t3
          exact I4 x y z ((mD x).mpr t1) ((mD y).mpr t2) ((mD z).mpr t3) h2 h3 t4 t5
        · exact I c' x y z (by omega) h2 h3 h4 t1 t2 t3 t4 t5
    · rintro σ H2 ⟨v2, v3, v4, v5, v6, v7, v8, v9, rfl, s2, I⟩
      refine q _ _ (s1.trans s2) (.inl ⟨rfl, fun c x y z hc hx hy hz t1 t2 t3 n1 n2 n3 e1 e2 e3 => ?_⟩)
      have key : ∀ a b d, a < b → b < d → d < n → tieT ties c a = true → tieT ties c b = true → tieT ties c d = true → tieT ties a b = false → tieT ties a d = false → tieT ties b d = false → False := fun a b d h1 h2 h3 k1 k2 k3 k4 k5 k6 => by
        have := I c a b d (by omega) h1 h2 h3 k1 k2 k3 k4 k5
        rw [k6] at this
        cases this
      have f1 : tieT ties y x = false := by rw [S.sy]; exact e1
      have f2 : tieT ties z x = false := by rw [S.sy]; exact e2
      have f3 : tieT ties z y = false := by rw [S.sy]; exact e3
      rcases Nat.lt_or_gt_of_ne n1 with a | a <;> rcases Nat.lt_or_gt_of_ne n2 with b | b <;> rcases Nat.lt_or_gt_of_ne n3 with d | d
      · exact key x y z a d hz t1 t2 t3 e1 e2 e3
      · exact key x z y b d hy t1 t3 t2 e2 e1 f3
      · omega
      · exact key z x y b a hy t3 t1 t2 f2 f3 e1
      · exact key y x z a b hz t2 t1 t3 f1 e3 e2
      · omega
      · exact key y z x d b hx t2 t3 t1 e3 f1 f2
      · exact key z y x d a hx t3 t2 t1 f3 f2 f1
end
end Ns
/-! Own layer: xs >= ys of two lists of whole numbers. -/
namespace Ns
open PySem PySem.Spec PyProof.Rows L2
/-- the list stands not before the other one -/
def geI : List Int → List Int → Bool
  | [], [] => true
  | _ :: _, [] => true
  | [], _ :: _ => false
  | x :: xs, y :: ys => if x = y then geI xs ys else decide (y ≤ x)
theorem geI_first : ∀ (xs ys : List Int), SeqAt.firstLt (fun j => decide (xs.getD j 0 = ys.getD j 0)) (fun j => decide (ys.getD j 0 ≤ xs.getD j 0)) (decide (xs.length ≥ ys.length)) (List.range (min xs.length ys.length)) = geI xs ys
  | [], [] => by simp [SeqAt.firstLt, geI]
  | _ :: _, [] => by simp [SeqAt.firstLt, geI]
  | [], _ :: _ => by simp [SeqAt.firstLt, geI]
  | x :: xs, y :: ys => by
    have ih := geI_first xs ys
    rw [List.length_cons, List.length_cons, show min (xs.length + 1) (ys.length + 1) = min xs.length ys.length + 1 by omega, List.range_succ_eq_map]
    unfold geI
    by_cases e : x = y
    · rw [SeqAt.firstLt_yes (by simpa using e), if_pos e, ← ih]
      have em : ∀ (e r : Nat → Bool) (z : Bool) (f : Nat → Nat) (l : List Nat), SeqAt.firstLt e r z (l.map f) = SeqAt.firstLt (fun j => e (f j)) (fun j => r (f j)) z l := fun e r z f l => by
        induction l with
        | nil => rfl
        | cons a l ih =>
          rw [List.map_cons]
          unfold SeqAt.firstLt
          rw [ih]
      rw [em]
      have e1 : decide (xs.length + 1 ≥ ys.length + 1) = decide (xs.length ≥ ys.length) := by
        apply decide_eq_decide.mpr
        omega
      rw [e1]
      rfl
    · rw [SeqAt.firstLt_no (by simpa using e), if_neg e]
      rfl
def rGeL (K : PySem.W.Frag) : R2 := fun x y H Q => ∃ (a b : Addr) (ns ms : List Int), x = .ref a ∧ y = .ref b ∧ SqL K H a (ns.map V.int) ∧ SqL K H b (ms.map V.int) ∧ Q (.bl (geI ns ms)) H
theorem op_geL {X : Cx} (hu : X.A.units < cLine) : OpR X (compareOp .GtE) (rGeL X.K) := by
  intro pins s σ H x y v u Q I rx ry h
  obtain ⟨a, b, ns, ms, rfl, rfl, ha, hb, q⟩ := h
  cases rx
  cases ry
  obtain ⟨its, r1, p1, _⟩ := I.list ha
  obtain ⟨its2, r2, p2, _⟩ := I.list hb
  have i1 : IntsAre its ns := Vals.ints r1
  have i2 : IntsAre its2 ms := Vals.ints r2
  have e1 : its.toArray.size = ns.length := by rw [List.size_toArray]; exact i1.length
  have e2 : its2.toArray.size = ms.length := by rw [List.size_toArray]; exact i2.length
  have at1 : ∀ j (h1 : j < its.toArray.size), ∃ t, its.toArray[j] = .int (ns.getD j 0) t := fun j h1 => PyProof.Rows.IntsAre.int_at i1 _ _ (by simp at h1; simp [h1])
  have at2 : ∀ j (h1 : j < its2.toArray.size), ∃ t, its2.toArray[j] = .int (ms.getD j 0) t := fun j h1 => PyProof.Rows.IntsAre.int_at i2 _ _ (by simp at h1; simp [h1])
  have R := SeqAt.RcOp.lists_ge (A := X.A) (s := s) (e := fun j => decide (ns.getD j 0 = ms.getD j 0)) (r := fun j => decide (ms.getD j 0 ≤ ns.getD j 0)) p1.isList p2.isList hu (fun j h1 h2 => by
    obtain ⟨t, et⟩ := at1 j h1
    obtain ⟨t', et'⟩ := at2 j h2
    rw [et, et']
    have z : (ns.getD j 0 == ms.getD j 0) = decide (ns.getD j 0 = ms.getD j 0) := by
      by_cases q : ns.getD j 0 = ms.getD j 0
      · rw [decide_eq_true q]; exact beq_iff_eq.mpr q
      · rw [decide_eq_false q]; exact beq_eq_false_iff_ne.mpr q
    rw [← z]
    exact SeqAt.EqAt.int_int _ _ _ _) (fun j h1 h2 _ => by
    obtain ⟨t, et⟩ := at1 j h1
    obtain ⟨t', et'⟩ := at2 j h2
    rw [et, et']
    exact Ob.RcOp.ge_int _ _ _ _)
  rw [e1, e2, geI_first] at R
  have z : wpAny (model X.prog X.w) X.A (compareOp .GtE (.ref a) (.ref b)) (EP X pins σ Q) X.xe s := R X.prog X.w X.xe (EP X pins σ Q) ⟨.bl _, H, I, rfl, q⟩
  exact z
theorem op_geLK {X : Cx} {K : PySem.W.Frag} (hK : X.K = K) (hu : X.A.units < cLine) : OpR X (compareOp .GtE) (rGeL K) := by subst hK; exact op_geL hu
end Ns
/-! Own layer: what a sweep does, in plain Lean. -/
namespace Ns
open PySem PySem.Spec PyProof.Rows L2
/-- at the first point that parts them, a is tied -/
def beat (T : Tm) : List Nat → Nat → Nat → Bool
  | [], _, _ => true
  | o :: O, a, b => if T o a = T o b then beat T O a b else T o a
def labF (T : Tm) : Int → List Nat → Nat → List Int
  | _, [], _ => []
  | c, o :: O, p => (if T o p = true then [c] else []) ++ labF T (c - 1) O p
theorem labF_le {T : Tm} {p : Nat} : ∀ (O : List Nat) (c : Int), ∀ z ∈ labF T c O p, z ≤ c
  | [], _, _, h => nomatch h
  | o :: O, c, z, h => by
    unfold labF at h
    rcases List.mem_append.mp h with h | h
    · split at h
      · have := List.mem_singleton.mp h
        omega
      · exact nomatch h
    · have := labF_le O (c - 1) z h
      omega
theorem labF_len {T : Tm} {p : Nat} : ∀ (O : List Nat) (c : Int), (labF T c O p).length ≤ O.length
  | [], _ => Nat.le_refl _
  | o :: O, c => by
    have := labF_len (T := T) (p := p) O (c - 1)
    unfold labF
    rw [List.length_append, List.length_cons]
    split
    · rw [List.length_singleton]; omega
    · rw [List.length_nil]; omega
theorem labF_snoc {T : Tm} {p b : Nat} : ∀ (O : List Nat) (c : Int), labF T c (O ++ [b]) p = labF T c O p ++ if T b p = true then [c - O.length] else []
  | [], c => by
    show (if T b p = true then [c] else []) ++ labF T (c - 1) [] p = [] ++ _
    rw [show labF T (c - 1) [] p = [] from rfl, List.append_nil, List.nil_append]
    simp
  | o :: O, c => by
    rw [List.cons_append]
    unfold labF
    rw [labF_snoc O (c - 1), List.append_assoc, List.length_cons, show c - 1 - (O.length : Int) = c - ((O.length + 1 : Nat) : Int) by omega]
theorem geI_lab {T : Tm} {a b : Nat} : ∀ (O : List Nat) (c : Int), geI (labF T c O a) (labF T c O b) = beat T O a b
  | [], _ => rfl
  | o :: O, c => by
    have ih := geI_lab (T := T) (a := a) (b := b) O (c - 1)
    have la := labF_le (T := T) (p := a) O (c - 1)
    have lb := labF_le (T := T) (p := b) O (c - 1)
    unfold labF beat
    cases ea : T o a <;> cases eb : T o b
    · simpa using ih
    · show geI ([] ++ labF T (c - 1) O a) (c :: _) = _
      rw [List.nil_append]
      cases e : labF T (c - 1) O a with
      | nil => rfl
      | cons x xs =>
        have := la x (by rw [e]; exact List.mem_cons_self ..)
        unfold geI
        rw [if_neg (by omega)]
        simp
        omega
    · show geI (c :: _) ([] ++ labF T (c - 1) O b) = _
      rw [List.nil_append]
      cases e : labF T (c - 1) O b with
      | nil => rfl
      | cons x xs =>
        have := lb x (by rw [e]; exact List.mem_cons_self ..)
        unfold geI
        rw [if_neg (by omega)]
        simp
        omega
    · show geI (c :: labF T (c - 1) O a) (c :: labF T (c - 1) O b) = _
      unfold geI
      rw [if_pos rfl, if_pos rfl]
      exact ih
theorem beat_refl {T : Tm} {a : Nat} : ∀ O, beat T O a a = true
  | [] => rfl
  | o :: O => by
    unfold beat
    rw [if_pos rfl]
    exact beat_refl O
theorem beat_total {T : Tm} {a b : Nat} : ∀ O, beat T O a b = false → beat T O b a = true
  | [], h => nomatch h
  | o :: O, h => by
    have ih := beat_total (T := T) (a := a) (b := b) O
    unfold beat at h ⊢
    cases ea : T o a <;> cases eb : T o b <;> rw [ea, eb] at h <;> simp_all
theorem beat_trans {T : Tm} {a b c : Nat} : ∀ O, beat T O a b = true → beat T O b c = true → beat T O a c = true
  | [], _, _ => rfl
  | o :: O, h, k => by
    have ih := beat_trans (T := T) (a := a) (b := b) (c := c) O
    unfold beat at h k ⊢
    cases ea : T o a <;> cases eb : T o b <;> cases ec : T o c <;> rw [ea, eb] at h <;> rw [eb, ec] at k <;> simp_all
theorem beat_split {T : Tm} {a b : Nat} : ∀ O, beat T O a b = true → (∀ v ∈ O, T v a = T v b) ∨ ∃ i u, O[i]? = some u ∧ T u a = true ∧ T u b = false ∧ ∀ v ∈ O.take i, T v a = T v b
  | [], _ => .inl fun _ h => nomatch h
  | o :: O, h => by
    unfold beat at h
    by_cases e : T o a = T o b
    · rw [if_pos e] at h
      rcases beat_split O h with k | ⟨i, u, h1, h2, h3, h4⟩
      · refine .inl fun v hv => ?_
        rcases List.mem_cons.mp hv with hv | hv
        · rw [hv]; exact e
        · exact k v hv
      · refine .inr ⟨i + 1, u, by rw [List.getElem?_cons_succ]; exact h1, h2, h3, fun v hv => ?_⟩
        rw [List.take_succ_cons] at hv
        rcases List.mem_cons.mp hv with hv | hv
        · rw [hv]; exact e
        · exact h4 v hv
    · rw [if_neg e] at h
      refine .inr ⟨0, o, rfl, h, ?_, fun v hv => nomatch hv⟩
      cases eb : T o b
      · rfl
      · rw [h, eb] at e
        exact absurd rfl e
theorem beat_alike {T : Tm} {a b : Nat} : ∀ O, (∀ v ∈ O, T v a = T v b) → beat T O a b = true
  | [], _ => rfl
  | o :: O, h => by
    unfold beat
    rw [if_pos (h o (List.mem_cons_self ..))]
    exact beat_alike O fun v hv => h v (List.mem_cons_of_mem _ hv)
/-- a sweep under way: O stands already, L is left -/
structure SwI (n : Nat) (T : Tm) (posb : Nat → Nat) (O L : List Nat) : Prop where
  nd : O.Nodup
  cov : ∀ x, x < n ↔ x ∈ O ∨ x ∈ L
  dis : ∀ x ∈ O, x ∉ L
  up : L.Pairwise fun x y => posb x < posb y
  ok : ∀ k a, O[k]? = some a → ∀ b, b < n → b ∉ O.take k → b ≠ a → beat T (O.take k) a b = true ∧ (beat T (O.take k) b a = true → posb b < posb a)
theorem up_of {B : List Nat} (nd : B.Nodup) : B.Pairwise fun x y => B.idxOf x < B.idxOf y := by
  rw [List.pairwise_iff_getElem]
  intro i j hi hj h
  rw [nd.idxOf_getElem, nd.idxOf_getElem]
  exact h
theorem SwI.start {n : Nat} {T : Tm} {B : List Nat} (p : B.Perm (List.range n)) : SwI n T (fun x => B.idxOf x) [] B where
  nd := .nil
  cov x := by simp [p.mem_iff]
  dis _ h := nomatch h
  up := up_of (p.nodup_iff.mpr List.nodup_range)
  ok k a h := nomatch h
theorem SwI.ndL {n : Nat} {T : Tm} {posb : Nat → Nat} {O L : List Nat} (h : SwI n T posb O L) : L.Nodup := h.up.imp fun k e => by rw [e] at k; omega
theorem SwI.len {n : Nat} {T : Tm} {posb : Nat → Nat} {O L : List Nat} (h : SwI n T posb O L) : O.length + L.length = n := by
  have p : (O ++ L).Perm (List.range n) := by
    rw [List.perm_ext_iff_of_nodup (List.nodup_append.mpr ⟨h.nd, h.ndL, fun a ha b hb e => h.dis a ha (e ▸ hb)⟩) List.nodup_range]
    intro x
    rw [List.mem_append, List.mem_range, h.cov]
  have := p.length_eq
  rwa [List.length_append, List.length_range] at this
/-- the best one of those looked at so far -/
def BestI (T : Tm) (O L : List Nat) (j i0 a : Nat) : Prop := L[i0]? = some a ∧ i0 ≤ j ∧ ∀ i b, i < j → L[i]? = some b → beat T O a b = true ∧ (beat T O b a = true → i ≤ i0)
theorem BestI.start {T : Tm} {O L : List Nat} {a : Nat} (h : L[0]? = some a) : BestI T O L 0 0 a := ⟨h, Nat.le_refl _, fun i b hi => absurd hi (Nat.not_lt_zero _)⟩
theorem BestI.new {T : Tm} {O L : List Nat} {j i0 a x : Nat} (h : BestI T O L j i0 a) (hx : L[j]? = some x) (b : beat T O x a = true) : BestI T O L (j + 1) j x := ⟨hx, by omega, fun i c hi hc => by
  by_cases e : i = j
  · subst e
    rw [hx] at hc
    rw [← Option.some.inj hc]
    exact ⟨beat_refl O, fun _ => Nat.le_refl _⟩
  · exact ⟨beat_trans O b (h.2.2 i c (by omega) hc).1, fun _ => by omega⟩⟩
theorem BestI.old {T : Tm} {O L : List Nat} {j i0 a x : Nat} (h : BestI T O L j i0 a) (hx : L[j]? = some x) (b : beat T O x a = false) : BestI T O L (j + 1) i0 a := ⟨h.1, by have := h.2.1; omega, fun i c hi hc => by
  by_cases e : i = j
  · subst e
    rw [hx] at hc
    rw [← Option.some.inj hc]
    exact ⟨beat_total O b, fun k => by rw [b] at k; cases k⟩
  · exact h.2.2 i c (by omega) hc⟩
theorem SwI.step {n : Nat} {T : Tm} {posb : Nat → Nat} {O L : List Nat} (h : SwI n T posb O L) {i0 a : Nat} (b : BestI T O L L.length i0 a) : SwI n T posb (O ++ [a]) (L.eraseIdx i0) := by
  rw [show L.eraseIdx i0 = L.erase a from by
    obtain ⟨hi, e⟩ := List.getElem?_eq_some_iff.mp b.1
    rw [← e]
    exact (List.erase_eq_eraseIdx_of_idxOf (h.ndL.idxOf_getElem i0 hi)).symm]
  have aL := List.mem_of_getElem? b.1
  have aO : a ∉ O := fun k => h.dis a k aL
  have mE : ∀ x, x ∈ L.erase a ↔ x ≠ a ∧ x ∈ L := fun x => h.ndL.mem_erase_iff
  refine ⟨List.nodup_append.mpr ⟨h.nd, (by simp), fun x hx y hy e => aO (by rw [← List.mem_singleton.mp hy, ← e]; exact hx)⟩, fun x => ?_, fun x hx k => ?_, h.up.sublist List.erase_sublist, fun k c hc x hx nx ne => ?_⟩
  · rw [h.cov, List.mem_append, List.mem_singleton, mE]
    by_cases e : x = a
    · simp [e, aL]
    · simp [e]
  · obtain ⟨k1, k2⟩ := (mE x).mp k
    rcases List.mem_append.mp hx with hx | hx
    · exact h.dis x hx k2
    · exact k1 (List.mem_singleton.mp hx)
  · by_cases lt : k < O.length
    · rw [List.getElem?_append_left lt] at hc
      rw [List.take_append_of_le_length (by omega)] at nx ⊢
      exact h.ok k c hc x hx nx ne
    · rw [List.getElem?_append_right (by omega)] at hc
      have k0 : k - O.length = 0 := by
        have := (List.getElem?_eq_some_iff.mp hc).1
        rw [List.length_singleton] at this
        omega
      rw [k0] at hc
      have : a = c := Option.some.inj hc
      subst this
      have ek : k = O.length := by omega
      subst ek
      rw [List.take_append_of_le_length (Nat.le_refl _), List.take_length] at nx ⊢
      have xL := ((h.cov x).mp hx).resolve_left nx
      obtain ⟨i, hi⟩ := List.getElem?_of_mem xL
      have il := (List.getElem?_eq_some_iff.mp hi).1
      obtain ⟨b1, b2⟩ := b.2.2 i x il hi
      refine ⟨b1, fun k => ?_⟩
      have ile := b2 k
      have ine : i ≠ i0 := fun e => ne (by rw [e, b.1] at hi; exact (Option.some.inj hi).symm)
      obtain ⟨i0l, e0⟩ := List.getElem?_eq_some_iff.mp b.1
      obtain ⟨_, ei⟩ := List.getElem?_eq_some_iff.mp hi
      have := (List.pairwise_iff_getElem.mp h.up) i i0 il i0l (by omega)
      rwa [ei, e0] at this
theorem SwI.done {n : Nat} {T : Tm} {posb : Nat → Nat} {O : List Nat} (h : SwI n T posb O []) : O.Perm (List.range n) ∧ LexP n T (fun x => O.idxOf x) posb := by
  have mO : ∀ x, x < n ↔ x ∈ O := fun x => by rw [h.cov]; simp
  refine ⟨?_, ⟨fun x y hx hy e => ?_, fun a b ha hb lt => ?_⟩⟩
  · rw [List.perm_ext_iff_of_nodup h.nd List.nodup_range]
    intro x
    rw [List.mem_range, mO]
  · have h1 := List.getElem_idxOf (List.idxOf_lt_length_iff.mpr ((mO x).mp hx))
    have h2 := List.getElem_idxOf (List.idxOf_lt_length_iff.mpr ((mO y).mp hy))
    rw [← h1, ← h2]
    congr 1
  · have la := List.idxOf_lt_length_iff.mpr ((mO a).mp ha)
    have hk : O[O.idxOf a]? = some a := List.getElem?_eq_some_iff.mpr ⟨la, List.getElem_idxOf la⟩
    have at_ : ∀ {i v}, O[i]? = some v → O.idxOf v = i := fun {i v} hv => by
      obtain ⟨hi, e⟩ := List.getElem?_eq_some_iff.mp hv
      rw [← e]
      exact h.nd.idxOf_getElem i hi
    have mem_take : ∀ {k v}, v < n → O.idxOf v < k → v ∈ O.take k := fun {k v} hv lv => by
      have hl := List.idxOf_lt_length_iff.mpr ((mO v).mp hv)
      have : (O.take k)[O.idxOf v]? = some v := by rw [List.getElem?_take_of_lt lv]; exact List.getElem?_eq_some_iff.mpr ⟨hl, List.getElem_idxOf hl⟩
      exact List.mem_of_getElem? this
    have nb : b ∉ O.take (O.idxOf a) := fun k => by
      obtain ⟨i, hi⟩ := List.getElem?_of_mem k
      have il := (List.getElem?_eq_some_iff.mp hi).1
      rw [List.length_take] at il
      rw [List.getElem?_take_of_lt (by omega)] at hi
      have := at_ hi
      omega
    obtain ⟨b1, b2⟩ := h.ok _ a hk b hb nb fun e => by rw [e] at lt; omega
    rcases beat_split _ b1 with k | ⟨i, u, h1, h2, h3, h4⟩
    · exact .inr ⟨fun v hv lv => k v (mem_take hv lv), b2 (beat_alike _ fun v hv => (k v hv).symm)⟩
    · have il := (List.getElem?_eq_some_iff.mp h1).1
      rw [List.length_take] at il
      rw [List.getElem?_take_of_lt (by omega)] at h1
      have eu := at_ h1
      refine .inl ⟨u, (mO u).mpr (List.mem_of_getElem? h1), by omega, h2, h3, fun v hv lv => h4 v ?_⟩
      rw [List.take_take, show min i (O.idxOf a) = i by omega]
      exact mem_take hv (by omega)
end Ns
/-! Own layer: a sweep. -/
namespace Ns
open PySem PySem.Spec PyProof.Rows L2
local macro_rules | `(tactic| walk_at "look") => `(tactic| first | assumption | exact upd_same | (refine (upd_ne (by first | assumption | exact Ne.symm (by assumption))).trans ?_; walk_at "look"))
local macro_rules | `(tactic| walk_at "cond") => `(tactic| first | assumption | omega | (dsimp only; omega) | exact ⟨by omega, by omega⟩ | decide | exact ⟨by decide, by decide, by decide⟩ | exact .inr ⟨by decide, by decide⟩ | exact .inl ⟨by decide, by decide⟩ | exact .inr ⟨by omega, by omega⟩ | exact .inl ⟨by omega, by omega⟩)
local macro_rules | `(tactic| walk_at "rd1") => `(tactic| first
  | refine ⟨_, rfl, ?_⟩
  | refine ⟨_, _, rfl, rfl, ?_⟩
  | refine ⟨rfl, ?_⟩
  | refine ⟨_, _, rfl, rfl, (by walk_at "cond"), ?_⟩
  | refine ⟨_, _, _, _, rfl, rfl, SqL.of (by walk_at "look"), rfl, ?_⟩
  | refine ⟨_, _, _, _, rfl, rfl, SqT.of (by walk_at "look"), rfl, ?_⟩
  | refine ⟨_, _, _, _, rfl, rfl, (by walk_at "look"), rfl, ?_⟩
  | refine .inl ⟨_, rfl, ?_⟩
  | refine ⟨.inl ⟨rfl, _, SqL.of (by walk_at "look")⟩, ?_⟩
  | refine ⟨_, _, rfl, ⟨by omega, by omega, by omega, by omega⟩, ?_⟩
  | refine ⟨_, rfl, (by omega), (by omega), ?_⟩
  | refine And.intro (by walk_at "cond") ?_)
local macro_rules | `(tactic| walk_at "rd") => `(tactic| repeat (walk_at "rd1"))
abbrev N_sweep : List Str := ["near", "before", "labels", "left", "order", "best", "point", "_"]
theorem sc_sweep : FnScope N_sweep ["near", "before"] (defScope s_sweep) := ⟨rfl, rfl, rfl, by decide +kernel, rfl, by decide +kernel, by decide +kernel⟩
section
variable {P : Program} {w : World} {K : PySem.W.Frag} {mg : Str → Option Value} {base : Heap}
/-- the rows of labels: those of the points of L say by whom of O they are tied, save that the points of M (and only they) have heard of b already -/
structure LabH (H : Hp) (d : Addr) (lr : List Addr) (L : List Nat) (F : Nat → List Int) : Prop where
  top : H d = some (.lst (lr.map V.ref))
  nd : lr.Nodup
  off : d ∉ lr
  at_ : ∀ p, p ∈ L → ∃ a, lr[p]? = some a ∧ H a = some (.lst ((F p).map V.int))
theorem LabH.other {H : Hp} {d : Addr} {lr : List Addr} {L : List Nat} {F : Nat → List Int} (h : LabH H d lr L F) {a : Addr} {o : HO} (nd : a ≠ d) (nl : a ∉ lr) : LabH (upd H a o) d lr L F := ⟨by rw [upd_ne nd.symm]; exact h.top, h.nd, h.off, fun p hp => by
  obtain ⟨x, h1, h2⟩ := h.at_ p hp
  exact ⟨x, h1, by rw [upd_ne fun e => nl (by rw [← e]; exact List.mem_of_getElem? h1)]; exact h2⟩⟩
theorem LabH.less {H : Hp} {d : Addr} {lr : List Addr} {L L' : List Nat} {F : Nat → List Int} (h : LabH H d lr L F) (s : ∀ x ∈ L', x ∈ L) : LabH H d lr L' F := ⟨h.top, h.nd, h.off, fun p hp => h.at_ p (s p hp)⟩
theorem LabH.put {H : Hp} {d : Addr} {lr : List Addr} {L : List Nat} {F : Nat → List Int} (h : LabH H d lr L F) {p : Nat} {a : Addr} (hp : lr[p]? = some a) (xs : List Int) : LabH (upd H a (.lst (xs.map V.int))) d lr L (fun q => if q = p then xs else F q) := by
  have am := List.mem_of_getElem? hp
  refine ⟨by rw [upd_ne fun e => h.off (by rw [e]; exact am)]; exact h.top, h.nd, h.off, fun q hq => ?_⟩
  obtain ⟨b, h1, h2⟩ := h.at_ q hq
  refine ⟨b, h1, ?_⟩
  by_cases e : q = p
  · rw [if_pos e]
    rw [e, hp] at h1
    rw [← Option.some.inj h1, upd_same]
  · rw [if_neg e, upd_ne]
    · exact h2
    · intro eb
      rw [eb] at h1
      exact e ((List.getElem?_inj (List.getElem?_eq_some_iff.mp h1).1 h.nd).mp (h1.trans hp.symm))
theorem LabH.as {H : Hp} {d : Addr} {lr : List Addr} {L : List Nat} {F G : Nat → List Int} (h : LabH H d lr L F) (e : ∀ p ∈ L, F p = G p) : LabH H d lr L G := ⟨h.top, h.nd, h.off, fun p hp => by rw [← e p hp]; exact h.at_ p hp⟩
def sp_sweep : Sp := fun vs H Q _ => ∃ (m b : Addr) (rows : List Addr) (n : Nat) (Ls : Nat → List Nat) (ties : List (Nat × Nat)) (B : List Nat), vs = [.ref m, .ref b] ∧ DN H m rows n Ls ∧ Tells n Ls (tieE ties) ∧ SyT (tieT ties) ∧ n ≤ 40 ∧ H b = some (.lst (B.map pI)) ∧ B.Perm (List.range n) ∧ ∀ (r : Addr) (O : List Nat) H', Same H H' → H r = none → H' r = some (.lst (O.map pI)) → O.Perm (List.range n) → LexP n (tieT ties) (fun x => O.idxOf x) (fun x => B.idxOf x) → Q (.ref r) H'
theorem cal_sweep (A : At K mg "_sweep" s_sweep) (Bb : Bi mg) : Cal P w K mg base 1 "_sweep" sp_sweep := by
  have B := Bb
  have nd := sc_sweep.nd
  refine A.cal sc_sweep (fun _ _ _ _ _ _ us hl => match us, hl with | [_, _], _ => rfl) ?_ fun f cdv A' outer s H vs Q E hr h => ⟨_, (pss_cons (ps_setLc (i := 2) (own := [("_", 7)]) rfl nd rfl rfl (sw_true rfl rfl rfl (by decide +kernel)) (pi_listK (K := K) rfl (pv 0)) (blkOk_by (own := [("_", 7)]) (N := N_sweep) (sc := defScope s_sweep) (by decide +kernel)) (fun _ _ _ _ _ => (pg_name (i := 7) nd rfl (.inl rfl) (.inr rfl))) (fun _ _ _ _ _ => pts_nil) (fun _ _ _ _ _ => (pe_lst pa_nil)))
  (pss_cons (ps_set (i := 3) nd rfl (.inl rfl) (pe_callTy (call_list_ofK (K := K) rfl) (by rfl) B.list (by decide +kernel) (pa_cons (pv 1) pa_nil)))
  (pss_cons (ps_set (i := 4) nd rfl (.inl rfl) (pe_lst pa_nil))
  (pss_cons (ps_while passOwn (pt_truthK (K := K) rfl (pv 3) (by intro _; rfl)) (pss_cons (ps_set (i := 5) nd rfl (.inl rfl) (pe_ix (ix_listK (K := K) rfl) (pv 3) pe_int (fun _ _ => rfl)))
  (pss_cons (ps_for passOwn rfl (pi_listK (K := K) rfl (pv 3)) (pg_name (i := 6) nd rfl (.inl rfl)) (pss_one (ps_if (pt_cmpR (op_geLK (K := K) rfl hr.units0) (pe_ix (ix_listK (K := K) rfl) (pv 2) (pv 6) (fun _ _ => rfl)) (pe_ix (ix_listK (K := K) rfl) (pv 2) (pv 5) (fun _ _ => rfl)) (nomark _)) (pss_one (ps_set (i := 5) nd rfl (.inl rfl) (pv 6))) pss_nil)))
  (pss_cons (ps_expr (pe_bm PySem.F.plainAttrs_list PySem.F.slot_list_remove PySem.F.type_list_remove mt_remove (pv 3) (pa_cons (pv 5) pa_nil)))
  (pss_cons (ps_expr (pe_bm PySem.F.plainAttrs_list PySem.F.slot_list_append PySem.F.type_list_append mt_append (pv 4) (pa_cons (pv 5) pa_nil)))
  (pss_one (ps_for passOwn rfl (pi_listK (K := K) rfl (pv 3)) (pg_name (i := 6) nd rfl (.inl rfl)) (pss_one (ps_if (pt_cmp (pc_din (hu_of hr) (pv 6) (pe_ix (ix_listK (K := K) rfl) (pv 0) (pv 5) (fun _ _ => rfl))) rfl) (pss_one (ps_expr (pe_bm PySem.F.plainAttrs_list PySem.F.slot_list_append PySem.F.type_list_append mt_append (pe_ix (ix_listK (K := K) rfl) (pv 2) (pv 6) (fun _ _ => rfl)) (pa_cons (pe_op op_sub (pe_callB (call_lenK (K := K) rfl) (by rfl) B.len (by decide +kernel) (pa_cons (pv 0) pa_nil)) (pe_callB (call_lenK (K := K) rfl) (by rfl) B.len (by decide +kernel) (pa_cons (pv 4) pa_nil))) pa_nil)))) pss_nil)))))))))
  (pss_one (ps_ret (pv 4))))))), ?_⟩
  · rintro vs H Q E ⟨m, b, rows, n, Ls, ties, B, rfl, _⟩
    rfl
  · clear B
    obtain ⟨m, b, rows, n, Ls, ties, B, rfl, hD, hT, S, h40, hb, pB, q⟩ := h
    refine ⟨_, rfl, m, rfl, ⟨_, SqL.of hD.top⟩, fun d hd => ?_⟩
    have lr0 : (rows.map V.ref).length = n := by rw [List.length_map]; exact hD.len
    refine turns_it (walk_list (K := K) (a := m) (xs := rows.map V.ref)) (fun i H1 => Same H H1 ∧ ∃ lr : List Addr, H1 d = some (.lst (lr.map V.ref)) ∧ lr.length = i ∧ lr.Nodup ∧ ∀ a ∈ lr, a ≠ d ∧ H a = none ∧ H1 a = some (.lst [])) ⟨same_laid hd, [], upd_same, rfl, List.nodup_nil, fun a h => nomatch h⟩ (fun i H1 _ ⟨s1, _⟩ => SqL.of (s1 _ _ hD.top)) ?_ ?_
    · rintro i xv H1 H1' hi ⟨s1, lr, hd1, ll, ndl, hl⟩ ⟨rfl, hx⟩
      rw [lr0] at hi
      refine ⟨rfl, ?_⟩
      unfold tYes
      dsimp only
      rw [if_pos rfl]
      refine ⟨by decide, fun a ha => ?_⟩
      have aD : a ≠ d := fun e => by rw [e, hd1] at ha; cases ha
      have aH := gone s1 ha
      have x2 := same_laid (o := .lst []) ha
      have ha2 : (upd H1' a (.lst [])) a = some (.lst []) := upd_same
      have al : a ∉ lr := fun k => by have := (hl a k).2.2; rw [ha] at this; cases this
      refine ⟨lr.map V.ref, x2 _ _ hd1, by rw [List.length_map]; exact sizeBig (by omega), sPut (s1.trans x2) hd, lr ++ [a], by rw [upd_same, List.map_append]; rfl, by simp [ll], List.nodup_append.mpr ⟨ndl, by simp, fun x hx y hy e => al (by rw [← List.mem_singleton.mp hy, ← e]; exact hx)⟩, fun z hz => ?_⟩
      rcases List.mem_append.mp hz with hz | hz
      · obtain ⟨k1, k2, k3⟩ := hl z hz
        exact ⟨k1, k2, by rw [upd_ne k1]; exact x2 _ _ k3⟩
      · rw [List.mem_singleton.mp hz]
        exact ⟨aD, aH, by rw [upd_ne aD]; exact ha2⟩
    rintro H1 ⟨s1, lr, hd1, ll, ndl, hl⟩
    rw [lr0] at ll
    refine ⟨_, rfl, b, _, rfl, .inl (SqL.of (s1 _ _ hb)), fun l hl0 => ?_⟩
    have lH := gone s1 hl0
    have ld : l ≠ d := fun e => by rw [e, hd1] at hl0; cases hl0
    have llr : l ∉ lr := fun k => by have := (hl l k).2.2; rw [hl0] at this; cases this
    have x2 := same_laid (o := .lst (B.map pI)) hl0
    have s2 := s1.trans x2
    have hl2 : (upd H1 l (.lst (B.map pI))) l = some (.lst (B.map pI)) := upd_same
    generalize (upd H1 l (.lst (B.map pI))) = H2 at x2 s2 hl2 ⊢
    refine ⟨by decide, fun o ho0 => ?_⟩
    have oH := gone s2 ho0
    have od : o ≠ d := fun e => by rw [e, x2 _ _ hd1] at ho0; cases ho0
    have ol : o ≠ l := fun e => by rw [e, hl2] at ho0; cases ho0
    have olr : o ∉ lr := fun k => by have := x2 _ _ (hl o k).2.2; rw [ho0] at this; cases this
    have x3 := same_laid (o := .lst []) ho0
    have s3 := s2.trans x3
    have ho3 : (upd H2 o (.lst [])) o = some (.lst []) := upd_same
    have hl3 := x3 _ _ hl2
    have hlab : LabH (upd H2 o (.lst [])) d lr B (fun p => labF (tieT ties) ((n : Int) - 1) [] p) := ⟨x3 _ _ (x2 _ _ hd1), ndl, fun k => (hl d k).1 rfl, fun p hp => by
      have pn : p < lr.length := by rw [ll]; exact List.mem_range.mp (pB.mem_iff.mp hp)
      exact ⟨lr[p], List.getElem?_eq_getElem pn, x3 _ _ (x2 _ _ (hl _ (List.getElem_mem pn)).2.2)⟩⟩
    generalize (upd H2 o (.lst [])) = H3 at x3 s3 ho3 hl3 hlab ⊢
    have lrH : ∀ a ∈ lr, H a = none := fun a ha => (hl a ha).2.1
    have dH : H d = none := hd
    refine ⟨fun mm σ H4 => ∃ (O L : List Nat) (v5 v6 v7 : Option V), σ = [some (.ref m), some (.ref b), some (.ref d), some (.ref l), some (.ref o), v5, v6, v7] ∧ Same H H4 ∧ H4 l = some (.lst (L.map pI)) ∧ H4 o = some (.lst (O.map pI)) ∧ LabH H4 d lr L (fun p => labF (tieT ties) ((n : Int) - 1) O p) ∧ SwI n (tieT ties) (fun x => B.idxOf x) O L ∧ mm = L.length, ⟨_, [], B, none, none, none, rfl, s3, hl3, ho3, hlab, SwI.start pB, rfl⟩, ?_⟩
    rintro mm σ H4 ⟨O, L, v5, v6, v7, rfl, s4, hl4, ho4, hLab, W, rfl⟩
    have len := W.len
    refine ⟨_, rfl, _, tru_list hl4, ?_⟩
    cases L with
    | nil =>
      refine iteF ?_
      obtain ⟨pO, X⟩ := W.done
      exact ⟨_, rfl, q o O H4 s4 oH ho4 pO X⟩
    | cons x0 L0 =>
    rw [List.length_cons] at len
    refine iteT ?_
    refine ⟨fun σ' H' => ∃ (O' L' : List Nat) (v5 v6 v7 : Option V), σ' = [some (.ref m), some (.ref b), some (.ref d), some (.ref l), some (.ref o), v5, v6, v7] ∧ Same H H' ∧ H' l = some (.lst (L'.map pI)) ∧ H' o = some (.lst (O'.map pI)) ∧ LabH H' d lr L' (fun p => labF (tieT ties) ((n : Int) - 1) O' p) ∧ SwI n (tieT ties) (fun x => B.idxOf x) O' L' ∧ L'.length < (x0 :: L0).length, ?_, ?_⟩
    · rintro σ' H' ⟨O', L', v5, v6, v7, rfl, s', hl', ho', hLab', W', lt'⟩
      exact ⟨_, lt', O', L', v5, v6, v7, rfl, s', hl', ho', hLab', W', rfl⟩
    obtain ⟨L, eL⟩ : ∃ L, L = x0 :: L0 := ⟨_, rfl⟩
    have e0 : L[0]? = some x0 := by rw [eL]; rfl
    have lL : L.length = L0.length + 1 := by rw [eL]; rfl
    rw [← eL] at hl4 hLab W ⊢
    clear eL
    refine ⟨_, rfl, l, _, _, pI x0, rfl, rfl, SqL.of hl4, atI_nat (j := 0) (by rw [List.getElem?_map, e0]; rfl), ?_⟩
    refine ⟨_, rfl, l, rfl, ⟨_, SqL.of hl4⟩, ?_⟩
    have ltL : ∀ x ∈ L, x < n := fun x hx => (W.cov x).mpr (.inr hx)
    refine for_it (walk_list (K := K) (a := l) (xs := L.map pI)) (fun j σ H5 => ∃ (i0 a : Nat) (v6 : Option V), σ = [some (.ref m), some (.ref b), some (.ref d), some (.ref l), some (.ref o), some (pI a), v6, v7] ∧ H5 = H4 ∧ BestI (tieT ties) O L j i0 a) ⟨0, x0, v6, rfl, rfl, BestI.start e0⟩ (fun j σ H5 _ ⟨_, _, _, _, e, _⟩ => e ▸ SqL.of hl4) ?_ ?_
    · rintro j xv σ H5 H5' hj ⟨i0, a, v6, rfl, rfl, bi⟩ ⟨rfl, hx⟩
      rw [List.getElem?_map] at hx
      obtain ⟨x, hx2, rfl⟩ := Option.map_eq_some_iff.mp hx
      obtain ⟨rx, hrx, hlx⟩ := hLab.at_ x (List.mem_of_getElem? hx2)
      obtain ⟨ra, hra, hla⟩ := hLab.at_ a (List.mem_of_getElem? bi.1)
      refine ⟨_, rfl, _, rfl, d, _, _, .ref rx, rfl, rfl, SqL.of hLab.top, atI_nat (j := x) (by rw [List.getElem?_map, hrx]; rfl), _, rfl, _, rfl, d, _, _, .ref ra, rfl, rfl, SqL.of hLab.top, atI_nat (j := a) (by rw [List.getElem?_map, hra]; rfl), rx, ra, _, _, rfl, rfl, SqL.of hlx, SqL.of hla, ?_⟩
      rw [geI_lab]
      refine ⟨_, rfl, ifB (fun c => ?_) (fun c => ?_)⟩
      · exact ⟨_, rfl, j, x, _, rfl, rfl, bi.new hx2 c⟩
      · exact ⟨i0, a, _, rfl, rfl, bi.old hx2 c⟩
    rintro σ H5 ⟨i0, a, v6, rfl, rfl, bi⟩
    rw [List.length_map] at bi
    have aL := List.mem_of_getElem? bi.1
    have an := ltL a aL
    have emap : ∀ M : List Nat, M.map pI = (M.map fun x : Nat => (x : Int)).map V.int := fun M => by rw [List.map_map]; rfl
    refine ⟨_, rfl, .inl ⟨rfl, _, SqL.of hl4⟩, _, rfl, l, L.map (fun x : Nat => (x : Int)), (a : Int), i0, rfl, rfl, by rw [← emap]; exact hl4, by rw [List.getElem?_map, bi.1]; rfl, fun k hk e => ?_, ?_⟩
    · rw [List.getElem?_map] at e
      obtain ⟨y, hy, ey⟩ := Option.map_eq_some_iff.mp e
      have : y = a := by omega
      subst this
      have := W.ndL
      have := (List.getElem?_inj (List.getElem?_eq_some_iff.mp hy).1 W.ndL).mp (hy.trans bi.1.symm)
      omega
    rw [show (L.map fun x : Nat => (x : Int)).eraseIdx i0 = (L.eraseIdx i0).map fun x : Nat => (x : Int) from by rw [List.eraseIdx_eq_take_drop_succ, List.eraseIdx_eq_take_drop_succ, List.map_append, List.map_take, List.map_drop], ← emap]
    have s5 := sPut s4 (o := .lst ((L.eraseIdx i0).map pI)) lH
    have hl5 : (upd H5 l (.lst ((L.eraseIdx i0).map pI))) l = some (.lst ((L.eraseIdx i0).map pI)) := upd_same
    have ho5 : (upd H5 l (.lst ((L.eraseIdx i0).map pI))) o = some (.lst (O.map pI)) := by rw [upd_ne ol]; exact ho4
    have hL5 := hLab.other (o := .lst ((L.eraseIdx i0).map pI)) ld llr
    generalize (upd H5 l (.lst ((L.eraseIdx i0).map pI))) = H6 at s5 hl5 ho5 hL5 ⊢
    refine ⟨_, rfl, .inl ⟨rfl, _, SqL.of ho5⟩, _, rfl, o, _, _, rfl, rfl, ho5, by rw [List.length_map]; exact sizeBig (by omega), ?_⟩
    have W2 := W.step bi
    have len2 := W2.len
    rw [List.length_append, List.length_singleton] at len2
    rw [show O.map pI ++ [pI a] = (O ++ [a]).map pI from by rw [List.map_append]; rfl]
    have s6 := sPut s5 (o := .lst ((O ++ [a]).map pI)) oH
    have ho6 : (upd H6 o (.lst ((O ++ [a]).map pI))) o = some (.lst ((O ++ [a]).map pI)) := upd_same
    have hl6 : (upd H6 o (.lst ((O ++ [a]).map pI))) l = some (.lst ((L.eraseIdx i0).map pI)) := by rw [upd_ne ol.symm]; exact hl5
    have hL6 := (hL5.other (o := .lst ((O ++ [a]).map pI)) od olr).less (L' := L.eraseIdx i0) fun x hx => List.mem_of_mem_eraseIdx hx
    have ltl : (L.eraseIdx i0).length < L.length := by
      rw [List.length_eraseIdx, if_pos (List.getElem?_eq_some_iff.mp bi.1).1]
      omega
    have lt2 : ∀ x ∈ L.eraseIdx i0, x < n := fun x hx => ltL x (List.mem_of_mem_eraseIdx hx)
    have ndE := W2.ndL
    generalize (upd H6 o (.lst ((O ++ [a]).map pI))) = H7 at s6 ho6 hl6 hL6 ⊢
    clear hLab hl4 ho4 hl5 ho5 hL5
    generalize L.eraseIdx i0 = M at *
    obtain ⟨da, hda, hra⟩ := hD.row an
    refine ⟨_, rfl, l, rfl, ⟨_, SqL.of hl6⟩, ?_⟩
    refine for_it (walk_list (K := K) (a := l) (xs := M.map pI)) (fun j σ H8 => ∃ (v6 : Option V), σ = [some (.ref m), some (.ref b), some (.ref d), some (.ref l), some (.ref o), some (pI a), v6, v7] ∧ Same H H8 ∧ H8 l = some (.lst (M.map pI)) ∧ H8 o = some (.lst ((O ++ [a]).map pI)) ∧ LabH H8 d lr M (fun p => labF (tieT ties) ((n : Int) - 1) (if p ∈ M.take j then O ++ [a] else O) p)) ⟨v6, rfl, s6, hl6, ho6, hL6.as fun p hp => by rw [List.take_zero, if_neg (fun k => nomatch k)]⟩ (fun j σ H8 _ ⟨_, _, _, h, _⟩ => SqL.of h) ?_ ?_
    · rintro j xv σ H8o H8 hj ⟨v6, rfl, s8, hl8, ho8, hL8⟩ ⟨rfl, hx⟩
      rw [List.getElem?_map] at hx
      obtain ⟨x, hx2, rfl⟩ := Option.map_eq_some_iff.mp hx
      have xM := List.mem_of_getElem? hx2
      have xn := lt2 x xM
      have etk : M.take (j + 1) = M.take j ++ [x] := by rw [List.take_add_one, hx2]; rfl
      have xnew : x ∉ M.take j := fun k => by
        obtain ⟨i, hi⟩ := List.getElem?_of_mem k
        have il := (List.getElem?_eq_some_iff.mp hi).1
        rw [List.length_take] at il
        rw [List.getElem?_take_of_lt (by omega)] at hi
        have := (List.getElem?_inj (List.getElem?_eq_some_iff.mp hi).1 ndE).mp (hi.trans hx2.symm)
        omega
      refine ⟨_, rfl, _, rfl, _, rfl, _, _, _, .ref da, rfl, rfl, SqL.of (s8 _ _ hD.top), atI_nat (j := a) (by rw [List.getElem?_map, hda]; rfl), da, _, rfl, .inl ⟨_, .inl (x : Int), .inl (s8 _ _ hra), rfl, rfl⟩, _, rfl, ?_⟩
      rw [ldK_has]
      refine ifD (fun c => ?_) (fun c => ?_)
      · have c : tieT ties a x = true := (hT.mem a x an).mp c
        obtain ⟨rx, hrx, hlx⟩ := hL8.at_ x xM
        rw [if_neg xnew] at hlx
        refine ⟨_, rfl, _, rfl, d, _, _, .ref rx, rfl, rfl, SqL.of hL8.top, atI_nat (j := x) (by rw [List.getElem?_map, hrx]; rfl), ?_⟩
        have rm := List.mem_of_getElem? hrx
        have rd : rx ≠ d := fun e => hL8.off (by rw [← e]; exact rm)
        have rl : rx ≠ l := fun e => llr (by rw [← e]; exact rm)
        have ro : rx ≠ o := fun e => olr (by rw [← e]; exact rm)
        refine ⟨.inl ⟨rfl, _, SqL.of hlx⟩, _, rfl, _, _, rfl, .inl ⟨_, SqL.of (s8 _ _ hD.top), rfl⟩, _, rfl, _, _, rfl, .inl ⟨_, SqL.of ho8, rfl⟩, _, _, rfl, rfl, rx, _, _, rfl, rfl, hlx, ?_, ?_⟩
        · rw [List.length_map]
          have := labF_len (T := tieT ties) (p := x) O ((n : Int) - 1)
          exact sizeBig (by omega)
        · have ec : (rows.map V.ref).length - ((O ++ [a]).map pI).length = (n : Int) - 1 - O.length := by
            rw [lr0, List.length_map, List.length_append, List.length_singleton]
            omega
          dsimp only
          rw [ec]
          have es : (labF (tieT ties) ((n : Int) - 1) O x).map V.int ++ [V.int ((n : Int) - 1 - O.length)] = (labF (tieT ties) ((n : Int) - 1) (O ++ [a]) x).map V.int := by
            rw [labF_snoc, if_pos c, List.map_append]
            rfl
          rw [es]
          refine ⟨_, rfl, sPut s8 (lrH rx rm), by rw [upd_ne rl.symm]; exact hl8, by rw [upd_ne ro.symm]; exact ho8, (hL8.put hrx _).as fun p hp => ?_⟩
          by_cases e : p = x
          · subst e
            rw [if_pos rfl, etk, if_pos (by simp)]
          · rw [if_neg e]
            have : (p ∈ M.take (j + 1)) = (p ∈ M.take j) := by rw [etk]; simp [e]
            simp only [this]
      · refine ⟨_, rfl, s8, hl8, ho8, hL8.as fun p hp => ?_⟩
        by_cases e : p = x
        · subst e
          rw [if_neg xnew, etk, if_pos (by simp), labF_snoc, show (if tieT ties a p = true then [(n : Int) - 1 - O.length] else []) = [] from if_neg fun k => c ((hT.mem a p an).mpr k), List.append_nil]
        · have : (p ∈ M.take (j + 1)) = (p ∈ M.take j) := by rw [etk]; simp [e]
          simp only [this]
    · rintro σ H8 ⟨v6, rfl, s8, hl8, ho8, hL8⟩
      rw [List.length_map, List.take_length] at hL8
      exact ⟨O ++ [a], M, _, _, _, rfl, s8, hl8, ho8, hL8.as fun p hp => by rw [if_pos hp], W2, ltl⟩
end
end Ns
/-! Own layer: places that only rise, up to a solution. -/
namespace Ns
def gapS (n : Nat) (s pl : Nat → Int) : Nat := ((List.range n).map fun i => (s i - pl i).toNat).sum
theorem gapS_le {s pl pl' : Nat → Int} : ∀ n, (∀ i, i < n → pl i ≤ pl' i) → gapS n s pl' ≤ gapS n s pl
  | 0, _ => Nat.le_refl _
  | n + 1, h => by
    have ih := gapS_le (s := s) (pl := pl) (pl' := pl') n fun i hi => h i (by omega)
    have := h n (by omega)
    unfold gapS at ih ⊢
    rw [List.range_succ, List.map_append, List.map_append, List.sum_append, List.sum_append]
    simp only [List.map_cons, List.map_nil, List.sum_cons, List.sum_nil]
    omega
theorem gapS_lt {s pl pl' : Nat → Int} {i : Nat} : ∀ n, i < n → (∀ k, k < n → pl k ≤ pl' k) → pl i < pl' i → pl' i ≤ s i → gapS n s pl' < gapS n s pl
  | 0, h, _, _, _ => absurd h (by omega)
  | n + 1, h, m, l, t => by
    have mn := m n (by omega)
    have le := gapS_le (s := s) (pl := pl) (pl' := pl') n fun k hk => m k (by omega)
    by_cases e : i = n
    · subst e
      unfold gapS at le ⊢
      rw [List.range_succ, List.map_append, List.map_append, List.sum_append, List.sum_append]
      simp only [List.map_cons, List.map_nil, List.sum_cons, List.sum_nil]
      omega
    · have ih := gapS_lt (s := s) (pl := pl) (pl' := pl') n (by omega) (fun k hk => m k (by omega)) l t
      unfold gapS at ih ⊢
      rw [List.range_succ, List.map_append, List.map_append, List.sum_append, List.sum_append]
      simp only [List.map_cons, List.map_nil, List.sum_cons, List.sum_nil]
      omega
/-- what a round asks of the place i -/
def FitAt (n : Nat) (last : Nat → Nat) (L : Int) (pl : Nat → Int) (i : Nat) : Prop := pl (last i) - L ≤ pl i ∧ (0 < i → pl (i - 1) ≤ pl i) ∧ (last i + 1 < n → pl i + L + 1 ≤ pl (last i + 1))
theorem FitAt.all {n : Nat} {last : Nat → Nat} {L : Int} {pl : Nat → Int} (h : ∀ i, i < n → FitAt n last L pl i) : FitR n last L pl := ⟨fun i hi => (h i hi).1, fun i h0 hi => (h i hi).2.1 h0, fun i hi => (h i hi).2.2⟩
/-- a round under way: j places are looked at, the flag says whether something has risen -/
structure RndI (n : Nat) (last : Nat → Nat) (L : Int) (s pl0 : Nat → Int) (j : Nat) (pl : Nat → Int) (c : Bool) : Prop where
  le : ∀ i, i < n → pl i ≤ s i
  up : ∀ i, i < n → pl0 i ≤ pl i
  same : c = false → (∀ i, pl i = pl0 i) ∧ ∀ i, i < j → FitAt n last L pl i
  rise : c = true → gapS n s pl < gapS n s pl0
theorem RndI.start {n : Nat} {last : Nat → Nat} {L : Int} {s pl : Nat → Int} (h : ∀ i, i < n → pl i ≤ s i) : RndI n last L s pl 0 pl false := ⟨h, fun _ _ => Int.le_refl _, fun _ => ⟨fun _ => rfl, fun i hi => absurd hi (by omega)⟩, fun h => nomatch h⟩
theorem RndI.put {n : Nat} {last : Nat → Nat} {L : Int} {s pl0 pl : Nat → Int} {j j' : Nat} {c : Bool} (h : RndI n last L s pl0 j pl c) {i : Nat} (hi : i < n) {v : Int} (l : pl i < v) (t : v ≤ s i) : RndI n last L s pl0 j' (putF pl i v) true := by
  have e : ∀ k, putF pl i v k = if k = i then v else pl k := fun k => rfl
  have mono : ∀ k, k < n → pl k ≤ putF pl i v k := fun k _ => by
    rw [e]
    split
    · rename_i q
      rw [q]
      omega
    · exact Int.le_refl _
  have lt : gapS n s (putF pl i v) < gapS n s pl := gapS_lt n hi mono (by rw [e, if_pos rfl]; exact l) (by rw [e, if_pos rfl]; exact t)
  refine ⟨fun k hk => ?_, fun k hk => ?_, fun h => (nomatch h), fun _ => ?_⟩
  · rw [e]
    split
    · rename_i q; rw [q]; exact t
    · exact h.le k hk
  · rw [e]
    have := h.up k hk
    split
    · rename_i q; rw [q] at this ⊢; omega
    · exact this
  · cases c with
    | true => have := h.rise rfl; omega
    | false =>
      have := gapS_le (s := s) n h.up
      omega
theorem RndI.next {n : Nat} {last : Nat → Nat} {L : Int} {s pl0 pl : Nat → Int} {j : Nat} {c : Bool} (h : RndI n last L s pl0 j pl c) (f : c = false → FitAt n last L pl j) : RndI n last L s pl0 (j + 1) pl c := ⟨h.le, h.up, fun e => ⟨(h.same e).1, fun i hi => by
  by_cases q : i = j
  · rw [q]; exact f e
  · exact (h.same e).2 i (by omega)⟩, h.rise⟩
end Ns
/-! Own layer: the greatest of three whole numbers. -/
namespace Ns
open PySem PySem.Spec PyProof.Rows L2
def rMax3N : List V → Hp → VK → Prop := fun xs H Q => ∃ i j k : Int, xs = [.int i, .int j, .int k] ∧ Q (.int (max (max i j) k)) H
theorem cr_max3N {X : Cx} (hc : X.calm = true) : CallR X (.builtin "max") rMax3N := by
  intro pins s σ H xs us Q I r h
  obtain ⟨i, j, k, rfl, q⟩ := h
  refine call_max3Nu hc pins s σ H _ us Q I r ⟨_, _, _, _, rfl, ?_, q⟩
  have two : ∀ a b : Int, nuMax2 (.int a) (.int b) = some (.int (max a b)) := fun a b => by
    show some (if decide (a < b) = true then V.int b else V.int a) = _
    by_cases c : a < b
    · rw [decide_eq_true c, if_pos rfl, Int.max_eq_right (by omega)]
    · rw [decide_eq_false c, if_neg Bool.false_ne_true, Int.max_eq_left (by omega)]
  show (nuMax2 (.int i) (.int j)).bind _ = _
  rw [two]
  exact two _ _
end Ns
/-! Own layer: a cut, left at any state that M tells (not beside F22D, which holds the same). -/
namespace Ns
open PySem PySem.Spec PyProof.Rows L2
theorem cut_midU {t u : TS} {D : Ends} {σ : L2.St} {H : Hp} (M : L2.St → Hp → Prop) (h : t { D with nx := M } σ H) (g : ∀ σ' H', M σ' H' → u D σ' H') : C8.tCut t u D σ H := ⟨M, h, g⟩
end Ns
/-! Own layer: places along a straight row. -/
namespace Ns
open PySem PySem.Spec PyProof.Rows L2
local macro_rules | `(tactic| walk_at "look") => `(tactic| first | assumption | exact upd_same | (refine (upd_ne (by first | assumption | exact Ne.symm (by assumption))).trans ?_; walk_at "look"))
local macro_rules | `(tactic| walk_at "cond") => `(tactic| first | assumption | omega | (dsimp only; omega) | exact ⟨by omega, by omega⟩ | decide | exact ⟨by decide, by decide, by decide⟩ | exact .inr ⟨by decide, by decide⟩ | exact .inl ⟨by decide, by decide⟩ | exact .inr ⟨by omega, by omega⟩ | exact .inl ⟨by omega, by omega⟩)
local macro_rules | `(tactic| walk_at "rd1") => `(tactic| first
  | refine ⟨_, rfl, ?_⟩
  | refine ⟨_, _, rfl, rfl, ?_⟩
  | refine ⟨rfl, ?_⟩
  | refine ⟨_, _, rfl, rfl, (by walk_at "cond"), ?_⟩
  | refine ⟨_, _, _, _, rfl, rfl, SqL.of (by walk_at "look"), rfl, ?_⟩
  | refine ⟨_, _, _, _, rfl, rfl, SqT.of (by walk_at "look"), rfl, ?_⟩
  | refine ⟨_, _, _, _, rfl, rfl, (by walk_at "look"), rfl, ?_⟩
  | refine .inl ⟨_, rfl, ?_⟩
  | refine ⟨.inl ⟨rfl, _, SqL.of (by walk_at "look")⟩, ?_⟩
  | refine ⟨_, _, rfl, ⟨by omega, by omega, by omega, by omega⟩, ?_⟩
  | refine ⟨_, rfl, (by omega), (by omega), ?_⟩
  | refine And.intro (by walk_at "cond") ?_)
local macro_rules | `(tactic| walk_at "rd") => `(tactic| repeat (walk_at "rd1"))
abbrev N_places : List Str := ["near", "order", "length", "last", "at", "point", "places", "changed", "end", "least", "k", "other"]
theorem sc_places : FnScope N_places ["near", "order", "length"] (defScope s_places) := ⟨rfl, rfl, rfl, by decide +kernel, rfl, by decide +kernel, by decide +kernel⟩
section
variable {P : Program} {w : World} {K : PySem.W.Frag} {mg : Str → Option Value} {base : Heap}
theorem lastR_mk {n : Nat} {R : Nat → Nat → Bool} {i : Nat} (hi : i < n) {mx : Int} (h1 : mx ∈ ((i :: (List.range n).filter fun k => R i k).map fun x : Nat => (x : Int))) (h2 : ∀ y ∈ ((i :: (List.range n).filter fun k => R i k).map fun x : Nat => (x : Int)), y ≤ mx) : ∃ e : Nat, mx = e ∧ LastR n R i e := by
  obtain ⟨e, he, rfl⟩ := List.mem_map.mp h1
  have ge : (i : Int) ≤ e := h2 i (List.mem_map.mpr ⟨i, List.mem_cons_self .., rfl⟩)
  have key : i < e → e < n ∧ R i e = true := fun l => by
    rcases List.mem_cons.mp he with k | k
    · omega
    · obtain ⟨k1, k2⟩ := List.mem_filter.mp k
      exact ⟨List.mem_range.mp k1, k2⟩
  refine ⟨e, rfl, by omega, ?_, fun l => (key l).2, fun k hk hn => ?_⟩
  · by_cases l : i < e
    · exact (key l).1
    · omega
  · cases c : R i k
    · rfl
    · have := h2 k (List.mem_map.mpr ⟨k, List.mem_cons_of_mem _ (List.mem_filter.mpr ⟨List.mem_range.mpr hn, c⟩), rfl⟩)
      omega
theorem rowF_rep0 (n : Nat) : (List.replicate n [V.int 0]).flatten = rowF n fun _ => 0 := by
  unfold rowF
  rw [List.map_const', List.length_range]
  induction n with
  | zero => rfl
  | succ n ih => rw [List.replicate_succ, List.flatten_cons, ih, List.replicate_succ]; rfl
def relO (T : Tm) (O : List Nat) (i j : Nat) : Bool := T (O.getD i 0) (O.getD j 0)
def sp_places : Sp := fun vs H Q _ => ∃ (m b : Addr) (rows : List Addr) (n : Nat) (Ls : Nat → List Nat) (ties : List (Nat × Nat)) (O : List Nat) (L : Int), vs = [.ref m, .ref b, .int L] ∧ DN H m rows n Ls ∧ Tells n Ls (tieE ties) ∧ SyT (tieT ties) ∧ n ≤ 40 ∧ H b = some (.lst (O.map pI)) ∧ O.Perm (List.range n) ∧ (n : Int) ≤ L ∧ 1 ≤ L ∧ RowS n (relO (tieT ties) O) ∧ ∀ (r : Addr) (pl : Nat → Int) H', Same H H' → H r = none → H' r = some (.lst (rowF n pl)) → (∀ i j, i < j → j < n → (relO (tieT ties) O i j = true ↔ pl j - pl i ≤ L) ∧ pl i ≤ pl j) → Q (.ref r) H'
theorem cal_places (A : At K mg "_places" s_places) (Bb : Bi mg) : Cal P w K mg base 1 "_places" sp_places := by
  have B := Bb
  have nd := sc_places.nd
  refine A.cal sc_places (fun _ _ _ _ _ _ us hl => match us, hl with | [_, _, _], _ => rfl) ?_ fun f cdv A' outer s H vs Q E hr h => ⟨_, (pss_cons (ps_set (i := 3) nd rfl (.inl rfl) (pe_lst pa_nil))
  (pss_cons (ps_for passOwn rfl (pi_enumK (K := K) rfl (by rfl) B.enumerate (pa_cons (pv 1) pa_nil)) (pg_tupK (K := K) (n := 2) rfl rfl (pgs_cons (pg_name (i := 4) nd rfl (.inl rfl)) (pgs_cons (pg_name (i := 5) nd rfl (.inr rfl)) pgs_nil))) (pss_one (ps_expr (pe_bm PySem.F.plainAttrs_list PySem.F.slot_list_append PySem.F.type_list_append mt_append (pv 3) (pa_cons (pe_callB (cr_max rfl) (by rfl) B.max (by decide +kernel) (pa_cons (pe_op op_cat (pe_lst (pa_cons (pv 4) pa_nil)) (pe_lc (own := [("k", 10), ("other", 11)]) rfl nd (pi_enumK (K := K) rfl (by rfl) B.enumerate (pa_cons (pv 1) pa_nil)) (blkOk_by (own := [("k", 10), ("other", 11)]) (N := N_places) (sc := defScope s_places) (by decide +kernel)) (fun _ _ _ _ _ => (pg_tupK (K := K) (n := 2) rfl rfl (pgs_cons (pg_name (i := 10) nd rfl (.inl rfl) (.inr rfl)) (pgs_cons (pg_name (i := 11) nd rfl (.inl rfl) (.inr rfl)) pgs_nil)))) (fun _ _ _ _ _ => (pts_one (pt_cmp (pc_din (hu_of hr) (pv 11) (pe_ix (ix_listK (K := K) rfl) (pv 0) (pv 5) (fun _ _ => rfl))) rfl))) (fun _ _ _ _ _ => (pv 10)))) pa_nil)) pa_nil)))))
  (pss_cons (ps_set (i := 6) nd rfl (.inl rfl) (pe_op op_rep (pe_lst (pa_cons pe_int pa_nil)) (pe_callB (call_lenK (K := K) rfl) (by rfl) B.len (by decide +kernel) (pa_cons (pv 1) pa_nil))))
  (pss_cons (ps_set (i := 7) nd rfl (.inl rfl) pe_bl)
  (pss_cons (ps_while passOwn (pt_val (pv 7)) (pss_cons (ps_set (i := 7) nd rfl (.inl rfl) pe_bl)
  (pss_one (ps_for passOwn rfl (pi_enumK (K := K) rfl (by rfl) B.enumerate (pa_cons (pv 3) pa_nil)) (pg_tupK (K := K) (n := 2) rfl rfl (pgs_cons (pg_name (i := 4) nd rfl (.inl rfl)) (pgs_cons (pg_name (i := 8) nd rfl (.inl rfl)) pgs_nil))) (pss_cons (ps_set (i := 9) nd rfl (.inl rfl) (pe_callB (cr_max3N rfl) (by rfl) B.max (by decide +kernel) (pa_cons (pe_ix (ix_listK (K := K) rfl) (pv 6) (pv 4) (fun _ _ => rfl)) (pa_cons (pe_op op_sub (pe_ix (ix_listK (K := K) rfl) (pv 6) (pv 8) (fun _ _ => rfl)) (pv 2)) (pa_cons (pe_ifExp (pt_cmpR op_gt (pv 4) pe_int (nomark _)) (pe_ix (ix_listK (K := K) rfl) (pv 6) (pe_op op_sub (pv 4) pe_int) (fun _ _ => rfl)) pe_int) pa_nil)))))
  (C8.pss_cut (ps_if (pt_cmpR op_lt (pe_ix (ix_listK (K := K) rfl) (pv 6) (pv 4) (fun _ _ => rfl)) (pv 9) (nomark _)) (pss_cons (ps_asg (pv 9) (pg_sub (pv 6) (pv 4) set_list))
  (pss_one (ps_set (i := 7) nd rfl (.inl rfl) pe_bl))) pss_nil)
  (pss_one (ps_if (PW.pt (pw_and (pt_cmpR op_lt (pe_op op_add (pv 8) pe_int) (pe_callB (call_lenK (K := K) rfl) (by rfl) B.len (by decide +kernel) (pa_cons (pv 1) pa_nil)) (nomark _)) (pw_and1 (pt_cmpR op_lt (pe_ix (ix_listK (K := K) rfl) (pv 6) (pe_op op_add (pv 8) pe_int) (fun _ _ => rfl)) (pe_op op_add (pe_op op_add (pe_ix (ix_listK (K := K) rfl) (pv 6) (pv 4) (fun _ _ => rfl)) (pv 2)) pe_int) (nomark _))))) (pss_cons (ps_asg (pe_op op_add (pe_op op_add (pe_ix (ix_listK (K := K) rfl) (pv 6) (pv 4) (fun _ _ => rfl)) (pv 2)) pe_int) (pg_sub (pv 6) (pe_op op_add (pv 8) pe_int) set_list))
  (pss_one (ps_set (i := 7) nd rfl (.inl rfl) pe_bl))) pss_nil))))))))
  (pss_one (ps_ret (pv 6)))))))), ?_⟩
  · rintro vs H Q E ⟨m, b, rows, n, Ls, ties, O, L, rfl, _⟩
    rfl
  · clear B
    obtain ⟨m, b, rows, n, Ls, ties, O, L, rfl, hD, hT, S, h40, hb, pO, hL, h1, hR, q⟩ := h
    have lO : O.length = n := by rw [pO.length_eq, List.length_range]
    have lOm : (O.map pI).length = n := by rw [List.length_map]; exact lO
    have oLt : ∀ {i x}, O[i]? = some x → x < n := fun {i x} h => List.mem_range.mp (pO.mem_iff.mp (List.mem_of_getElem? h))
    have rel : ∀ {i j x y}, O[i]? = some x → O[j]? = some y → relO (tieT ties) O i j = tieT ties x y := fun {i j x y} h1 h2 => by
      unfold relO
      rw [List.getD_eq_getElem?_getD, List.getD_eq_getElem?_getD, h1, h2]
      rfl
    refine ⟨by decide, fun la hla => ?_⟩
    have s0 := same_laid (o := .lst []) hla
    have hl0 : (upd H la (.lst [])) la = some (.lst (([] : List Nat).map pI)) := upd_same
    generalize (upd H la (.lst [])) = H0 at s0 hl0 ⊢
    refine ⟨_, rfl, _, _, rfl, SqL.of (s0 _ _ hb), ?_⟩
    refine for_it (walk_enum (K := K) (a := b) (xs := O.map pI)) (fun i σ H1 => ∃ (v4 v5 v10 v11 : Option V) (ll : List Nat), σ = [some (.ref m), some (.ref b), some (.int L), some (.ref la), v4, v5, none, none, none, none, v10, v11] ∧ Same H H1 ∧ H1 la = some (.lst (ll.map pI)) ∧ ll.length = i ∧ ∀ k e, ll[k]? = some e → LastR n (relO (tieT ties) O) k e) ⟨none, none, none, none, [], rfl, s0, hl0, rfl, fun k e h => nomatch h⟩ (fun i σ H1 _ ⟨_, _, _, _, _, _, s1, _⟩ => SqL.of (s1 _ _ hb)) ?_ ?_
    · rintro i xv σ H1o H1 hi ⟨v4, v5, v10, v11, ll, rfl, s1, hl1, lll, hll⟩ ⟨tt, e1, e2, rfl, nt, rfl, h3, h4⟩
      rw [lOm] at hi
      have e3 : V.int (i : Nat) = e1 := Option.some.inj h3
      subst e3
      dsimp only at h4
      rw [List.getElem?_map] at h4
      obtain ⟨x, hx, rfl⟩ := Option.map_eq_some_iff.mp h4
      have xn := oLt hx
      have x1 := same_laid (o := .tup [.int (i : Nat), pI x]) nt
      have s2 := s1.trans x1
      have hl2 := x1 _ _ hl1
      have htt : (upd H1o tt (.tup [.int (i : Nat), pI x])) tt = some (.tup [.int (i : Nat), pI x]) := upd_same
      generalize (upd H1o tt (.tup [.int (i : Nat), pI x])) = H2 at s2 hl2 htt ⊢
      refine ⟨tt, _, rfl, SqT.of htt, rfl, _, _, rfl, _, _, rfl, rfl, ?_⟩
      refine ⟨_, rfl, .inl ⟨rfl, _, SqL.of hl2⟩, _, rfl, by show 1 ≤ sizeLine; decide, fun p1 hp1 => ?_⟩
      have x3 := same_laid (o := .lst [V.int (i : Nat)]) hp1
      have s3 := s2.trans x3
      have hl3 := x3 _ _ hl2
      have hp3 : (upd H2 p1 (.lst [V.int (i : Nat)])) p1 = some (.lst [V.int (i : Nat)]) := upd_same
      generalize (upd H2 p1 (.lst [V.int (i : Nat)])) = H3 at s3 hl3 hp3 x3 ⊢
      refine ⟨_, rfl, _, _, rfl, SqL.of (s3 _ _ hb), fun D hD0 => ?_⟩
      obtain ⟨dx, hdx, hrx⟩ := hD.row xn
      refine turns_it (walk_enum (K := K) (a := b) (xs := O.map pI)) (fun j H4 => Same H3 H4 ∧ H4 D = some (.lst (((List.range j).filter fun k => relO (tieT ties) O i k).map pI))) ⟨same_laid hD0, upd_same⟩ (fun j H4 _ ⟨s4, _⟩ => SqL.of (s4 _ _ (s3 _ _ hb))) ?_ ?_
      · rintro j yv H4o H4 hj ⟨s4, hD4⟩ ⟨t2, e1, e2, rfl, nt2, rfl, h5, h6⟩
        rw [lOm] at hj
        have e3 : V.int (j : Nat) = e1 := Option.some.inj h5
        subst e3
        dsimp only at h6
        rw [List.getElem?_map] at h6
        obtain ⟨y, hy, rfl⟩ := Option.map_eq_some_iff.mp h6
        have x5 := same_laid (o := .tup [.int (j : Nat), pI y]) nt2
        have s5 := s4.trans x5
        have hD5 := x5 _ _ hD4
        have htt2 : (upd H4o t2 (.tup [.int (j : Nat), pI y])) t2 = some (.tup [.int (j : Nat), pI y]) := upd_same
        generalize (upd H4o t2 (.tup [.int (j : Nat), pI y])) = H5 at s5 hD5 htt2 ⊢
        refine ⟨t2, _, rfl, SqT.of htt2, rfl, _, _, rfl, _, _, rfl, rfl, rfl, ?_⟩
        have s35 := s3.trans s5
        refine ⟨_, rfl, _, rfl, _, rfl, _, _, _, .ref dx, rfl, rfl, SqL.of (s35 _ _ hD.top), atI_nat (j := x) (by rw [List.getElem?_map, hdx]; rfl), dx, _, rfl, .inl ⟨_, .inl (y : Int), .inl (s35 _ _ hrx), rfl, rfl⟩, _, rfl, ?_⟩
        rw [ldK_has]
        have er : (List.range (j + 1)).filter (fun k => relO (tieT ties) O i k) = (List.range j).filter (fun k => relO (tieT ties) O i k) ++ (if y ∈ Ls x then [j] else []) := by
          rw [List.range_succ, List.filter_append, List.filter_cons, rel hx hy]
          have : (y ∈ Ls x) ↔ tieT ties x y = true := hT.mem x y xn
          by_cases e : tieT ties x y = true
          · rw [if_pos e, if_pos (this.mpr e)]; rfl
          · rw [if_neg e, if_neg (fun k => e (this.mp k))]; rfl
        refine ifD (fun c => ?_) (fun c => ?_)
        · rw [if_pos c] at er
          refine ⟨_, rfl, _, hD5, ?_, sPut s5 hD0, ?_⟩
          · rw [List.length_map]
            have := List.length_filter_le (fun k => relO (tieT ties) O i k) (List.range j)
            rw [List.length_range] at this
            exact sizeBig (by omega)
          · rw [upd_same, er, List.map_append]
            rfl
        · rw [if_neg c, List.append_nil] at er
          refine ⟨s5, ?_⟩
          rw [er]
          exact hD5
      rintro H4 ⟨s4, hD4⟩
      rw [lOm] at hD4
      have fl := List.length_filter_le (fun k => relO (tieT ties) O i k) (List.range n)
      rw [List.length_range] at fl
      refine ⟨p1, D, _, _, rfl, rfl, s4 _ _ hp3, hD4, ?_, fun p2 hp2 => ?_⟩
      · rw [List.length_map]
        exact Nat.le_of_lt (sizeBig (by show 1 + _ ≤ _; omega))
      have x5 := same_laid (o := .lst ([V.int (i : Nat)] ++ ((List.range n).filter fun k => relO (tieT ties) O i k).map pI)) hp2
      have hp5 : (upd H4 p2 (.lst ([V.int (i : Nat)] ++ ((List.range n).filter fun k => relO (tieT ties) O i k).map pI))) p2 = some (.lst (((i :: (List.range n).filter fun k => relO (tieT ties) O i k).map fun x : Nat => (x : Int)).map V.int)) := by
        rw [upd_same, List.map_map]
        rfl
      have hl5 := x5 _ _ (s4 _ _ hl3)
      have s5 := (s3.trans s4).trans x5
      generalize (upd H4 p2 (.lst ([V.int (i : Nat)] ++ ((List.range n).filter fun k => relO (tieT ties) O i k).map pI))) = H5 at s5 hp5 hl5 ⊢
      refine ⟨p2, _, rfl, SqL.of hp5, by rw [List.length_map, List.length_cons]; omega, fun mx hmx hle => ?_⟩
      obtain ⟨e, rfl, le⟩ := lastR_mk hi hmx hle
      refine ⟨la, _, _, rfl, rfl, hl5, by rw [List.length_map]; exact sizeBig (by omega), ?_⟩
      refine ⟨_, _, _, _, ll ++ [e], rfl, sPut s5 hla, by rw [upd_same, List.map_append]; rfl, by simp [lll], fun k e' hk => ?_⟩
      by_cases lt : k < ll.length
      · rw [List.getElem?_append_left lt] at hk
        exact hll k e' hk
      · rw [List.getElem?_append_right (by omega)] at hk
        have k0 : k - ll.length = 0 := by
          have := (List.getElem?_eq_some_iff.mp hk).1
          rw [List.length_singleton] at this
          omega
        rw [k0] at hk
        have : e = e' := Option.some.inj hk
        subst this
        rw [show k = i by omega]
        exact le
    · rintro σ H1 ⟨v4, v5, v10, v11, ll, rfl, s1, hl1, lll, hll⟩
      rw [lOm] at lll
      refine ⟨by show 1 ≤ sizeLine; decide, fun p0 hp0 => ?_⟩
      have x0 := same_laid (o := .lst [V.int 0]) hp0
      refine ⟨_, rfl, _, _, rfl, .inl ⟨_, SqL.of (x0 _ _ (s1 _ _ hb)), rfl⟩, ?_⟩
      rw [lOm]
      refine ⟨p0, n, _, rfl, rfl, upd_same, by omega, by omega, by show 1 * (n : Int).toNat ≤ sizeLine; exact Nat.le_of_lt (sizeBig (by omega)), fun r hr0 => ?_⟩
      have x1 := x0.trans (same_laid (o := .lst (List.replicate ((n : Int).toNat) [V.int 0]).flatten) hr0)
      have s2 := s1.trans x1
      have rH : H r = none := gone (s1.trans x0) hr0
      have hl2 := x1 _ _ hl1
      have hr2 : (upd (upd H1 p0 (.lst [V.int 0])) r (.lst (List.replicate ((n : Int).toNat) [V.int 0]).flatten)) r = some (.lst (rowF n fun _ => 0)) := by rw [upd_same, Int.toNat_natCast, rowF_rep0]
      have rla : r ≠ la := fun e => by rw [e, x0 _ _ hl1] at hr0; cases hr0
      generalize (upd (upd H1 p0 (.lst [V.int 0])) r (.lst (List.replicate ((n : Int).toNat) [V.int 0]).flatten)) = H2 at s2 hl2 hr2 ⊢
      obtain ⟨s, sol⟩ := sol_ex hR hL
      obtain ⟨last, elast⟩ : ∃ last : Nat → Nat, last = fun k => ll.getD k 0 := ⟨_, rfl⟩
      have hat : ∀ i, i < n → ll[i]? = some (last i) := fun i hi => by
        have hi2 : i < ll.length := by omega
        rw [elast, List.getElem?_eq_getElem hi2]
        dsimp only
        rw [List.getD_eq_getElem?_getD, List.getElem?_eq_getElem hi2]
        rfl
      have hlast : ∀ i, i < n → LastR n (relO (tieT ties) O) i (last i) := fun i hi => hll i _ (hat i hi)
      have sfit := sol.fit (by omega) hlast
      refine ⟨fun mm σ H3 => ∃ (pl : Nat → Int) (c : Bool) (v4 v5 v8 v9 v10 v11 : Option V), σ = [some (.ref m), some (.ref b), some (.int L), some (.ref la), v4, v5, some (.ref r), some (.bl c), v8, v9, v10, v11] ∧ Same H H3 ∧ H3 la = some (.lst (ll.map pI)) ∧ H3 r = some (.lst (rowF n pl)) ∧ (∀ i, i < n → pl i ≤ s i) ∧ (c = false → FitR n last L pl) ∧ mm = if c = true then 1 + gapS n s pl else 0, ⟨_, fun _ => 0, true, _, _, _, _, _, _, rfl, s2, hl2, hr2, fun i hi => sol.pos i hi, fun h => (nomatch h), rfl⟩, ?_⟩
      rintro mm σ H3 ⟨pl, c, v4, v5, v8, v9, v10, v11, rfl, s3, hl3, hr3, le3, fit, rfl⟩
      refine ⟨_, rfl, _, rfl, ?_⟩
      cases c with
      | false =>
        refine iteF ?_
        exact ⟨_, rfl, q r pl H3 s3 rH hr3 fun i j h1 h2 => (fit rfl).right hR (by omega) hlast i j h1 h2⟩
      | true =>
      refine iteT ?_
      refine ⟨fun σ' H' => ∃ (pl' : Nat → Int) (c : Bool) (v4 v5 v8 v9 v10 v11 : Option V), σ' = [some (.ref m), some (.ref b), some (.int L), some (.ref la), v4, v5, some (.ref r), some (.bl c), v8, v9, v10, v11] ∧ Same H H' ∧ H' la = some (.lst (ll.map pI)) ∧ H' r = some (.lst (rowF n pl')) ∧ (∀ i, i < n → pl' i ≤ s i) ∧ (c = false → FitR n last L pl') ∧ (c = true → gapS n s pl' < gapS n s pl), ?_, ?_⟩
      · rintro σ' H' ⟨pl', c, v4, v5, v8, v9, v10, v11, rfl, s', hl', hr', le', fit', lt'⟩
        refine ⟨if c = true then 1 + gapS n s pl' else 0, ?_, pl', c, _, _, _, _, _, _, rfl, s', hl', hr', le', fit', rfl⟩
        rw [if_pos rfl]
        cases c with
        | true => rw [if_pos rfl]; have := lt' rfl; omega
        | false => rw [if_neg Bool.false_ne_true]; omega
      refine ⟨_, rfl, _, _, rfl, SqL.of hl3, ?_⟩
      refine for_it (walk_enum (K := K) (a := la) (xs := ll.map pI)) (fun j σ H4 => ∃ (pl' : Nat → Int) (c : Bool) (v4 v8 v9 : Option V), σ = [some (.ref m), some (.ref b), some (.int L), some (.ref la), v4, v5, some (.ref r), some (.bl c), v8, v9, v10, v11] ∧ Same H H4 ∧ H4 la = some (.lst (ll.map pI)) ∧ H4 r = some (.lst (rowF n pl')) ∧ RndI n last L s pl j pl' c) ⟨pl, false, v4, v8, v9, rfl, s3, hl3, hr3, RndI.start le3⟩ (fun j σ H4 _ ⟨_, _, _, _, _, _, _, h, _⟩ => SqL.of h) ?_ ?_
      · rintro j xv σ H4o H4 hj ⟨pl1, c, v4, v8, v9, rfl, s4, hl4, hr4, I⟩ ⟨tt, e1, e2, rfl, nt, rfl, h3, h4⟩
        rw [List.length_map, lll] at hj
        have e3 : V.int (j : Nat) = e1 := Option.some.inj h3
        subst e3
        dsimp only at h4
        rw [List.getElem?_map, hat j hj] at h4
        have e4 : pI (last j) = e2 := Option.some.inj h4
        subst e4
        have x5 := same_laid (o := .tup [.int (j : Nat), pI (last j)]) nt
        have s5 := s4.trans x5
        have hl5 := x5 _ _ hl4
        have hr5 := x5 _ _ hr4
        have htt : (upd H4o tt (.tup [.int (j : Nat), pI (last j)])) tt = some (.tup [.int (j : Nat), pI (last j)]) := upd_same
        generalize (upd H4o tt (.tup [.int (j : Nat), pI (last j)])) = H5 at s5 hl5 hr5 htt ⊢
        refine ⟨tt, _, rfl, SqT.of htt, rfl, _, _, rfl, _, _, rfl, rfl, ?_⟩
        have lj := hlast j hj
        have eN := lj.lt
        have third : ∀ {σ : L2.St} {Q' : VK}, σ[4]? = some (some (V.int (j : Nat))) → σ[6]? = some (some (.ref r)) → (∀ t : Int, (0 < j → t = pl1 (j - 1)) → (j = 0 → t = 0) → Q' (.int t) H5) → tIf (tTest (tOp (rI0 fun i j => V.bl (decide (j < i))) (tVar 4) (tC (V.int 0)))) (tOp (rIxL K) (tVar 6) (tOp (rI0 fun i j => V.int (i - j)) (tVar 4) (tC (V.int 1)))) (tC (V.int 0)) σ H5 Q' := fun {σ Q'} e4 e6 q' => by
          refine ⟨_, e4, _, _, rfl, rfl, _, rfl, ifD (fun k => ?_) (fun k => ?_)⟩
          · have k : 0 < j := by omega
            refine ⟨_, e6, _, e4, _, _, rfl, rfl, r, _, ((j - 1 : Nat) : Int), .int (pl1 (j - 1)), rfl, by show V.int _ = V.int _; congr 1; omega, SqL.of hr5, atI_nat (j := j - 1) (rowF_at (by omega)), q' _ (fun _ => rfl) (fun h => by omega)⟩
          · exact q' _ (fun h => by omega) (fun _ => rfl)
        refine ⟨_, rfl, _, rfl, r, _, _, _, rfl, rfl, SqL.of hr5, atI_nat (j := j) (rowF_at hj), _, rfl, _, rfl, r, _, _, _, rfl, rfl, SqL.of hr5, atI_nat (j := last j) (rowF_at eN), _, rfl, _, _, rfl, rfl, third rfl rfl fun t t1 t2 => ?_⟩
        refine ⟨_, _, _, rfl, ?_⟩
        obtain ⟨least, el⟩ : ∃ least, least = max (max (pl1 j) (pl1 (last j) - L)) t := ⟨_, rfl⟩
        rw [← el]
        have lv : least ≤ s j := by
          have a1 := I.le j hj
          have a2 := I.le (last j) eN
          have a3 := sfit.back j hj
          have a4 : t ≤ s j := by
            by_cases z : 0 < j
            · rw [t1 z]
              have := I.le (j - 1) (by omega)
              have := sol.mono (j - 1) j (by omega) hj
              omega
            · rw [t2 (by omega)]
              exact sol.pos j hj
          omega
        refine cut_midU (fun σ' H' => ∃ (pl2 : Nat → Int) (c2 : Bool) (v9 : Option V), σ' = [some (.ref m), some (.ref b), some (.int L), some (.ref la), some (pI j), v5, some (.ref r), some (.bl c2), some (pI (last j)), v9, v10, v11] ∧ Same H H' ∧ H' la = some (.lst (ll.map pI)) ∧ H' r = some (.lst (rowF n pl2)) ∧ RndI n last L s pl j pl2 c2 ∧ (c2 = false → pl2 (last j) - L ≤ pl2 j ∧ (0 < j → pl2 (j - 1) ≤ pl2 j))) ?_ ?_
        · refine ⟨_, rfl, _, rfl, r, _, _, _, rfl, rfl, SqL.of hr5, atI_nat (j := j) (rowF_at hj), _, rfl, _, _, rfl, rfl, _, rfl, ifD (fun k => ?_) (fun k => ?_)⟩
          · refine ⟨_, rfl, _, rfl, _, rfl, r, _, _, j, rfl, rfl, hr5, (by rw [rowF_len]; exact ixN_of hj), ?_⟩
            rw [rowF_set]
            exact ⟨_, true, _, rfl, sPut s5 rH, by rw [upd_ne rla.symm]; exact hl5, upd_same, I.put hj k lv, fun h => nomatch h⟩
          · refine ⟨pl1, c, _, rfl, s5, hl5, hr5, I, fun _ => ⟨by omega, fun z => ?_⟩⟩
            have := t1 z
            omega
        rintro σ' H' ⟨pl2, c2, v9, rfl, s6, hl6, hr6, I2, fb⟩
        have skip : (last j + 1 < n → pl2 j + L + 1 ≤ pl2 (last j + 1)) → ∃ (pl' : Nat → Int) (c : Bool) (v4 v8 v9' : Option V), [some (V.ref m), some (.ref b), some (.int L), some (.ref la), some (pI j), v5, some (.ref r), some (.bl c2), some (pI (last j)), v9, v10, v11] = [some (V.ref m), some (.ref b), some (.int L), some (.ref la), v4, v5, some (.ref r), some (.bl c), v8, v9', v10, v11] ∧ Same H H' ∧ H' la = some (.lst (ll.map pI)) ∧ H' r = some (.lst (rowF n pl')) ∧ RndI n last L s pl (j + 1) pl' c := fun h => ⟨pl2, c2, _, _, _, rfl, s6, hl6, hr6, I2.next fun e => ⟨(fb e).1, (fb e).2, h⟩⟩
        refine ⟨_, rfl, _, _, rfl, rfl, _, rfl, _, _, rfl, .inl ⟨_, SqL.of (s6 _ _ hb), rfl⟩, _, _, rfl, rfl, _, rfl, ?_⟩
        rw [lOm]
        refine ifD (fun k => ?_) (fun k => iteF (skip fun z => absurd z (by omega)))
        have k : last j + 1 < n := by omega
        refine ⟨_, rfl, _, rfl, _, _, rfl, rfl, r, _, ((last j + 1 : Nat) : Int), _, rfl, rfl, SqL.of hr6, atI_nat (j := last j + 1) (rowF_at k), _, rfl, _, rfl, r, _, _, _, rfl, rfl, SqL.of hr6, atI_nat (j := j) (rowF_at hj), _, rfl, _, _, rfl, rfl, _, _, rfl, rfl, _, _, rfl, rfl, _, rfl, ifD (fun k2 => ?_) (fun k2 => skip fun _ => by omega)⟩
        have lv2 : pl2 j + L + 1 ≤ s (last j + 1) := by
          have := I2.le j hj
          have := sfit.far j hj k
          omega
        refine ⟨_, rfl, _, rfl, r, _, _, _, rfl, rfl, SqL.of hr6, atI_nat (j := j) (rowF_at hj), _, rfl, _, _, rfl, rfl, _, _, rfl, rfl, _, rfl, _, rfl, _, _, rfl, rfl, r, _, ((last j + 1 : Nat) : Int), last j + 1, rfl, rfl, hr6, (by rw [rowF_len]; exact ixN_of k), ?_⟩
        rw [rowF_set]
        exact ⟨_, true, _, _, _, rfl, sPut s6 rH, by rw [upd_ne rla.symm]; exact hl6, upd_same, I2.put k k2 lv2⟩
      · rintro σ H4 ⟨pl1, c, v4, v8, v9, rfl, s4, hl4, hr4, I⟩
        rw [List.length_map, lll] at I
        exact ⟨pl1, c, _, _, _, _, _, _, rfl, s4, hl4, hr4, I.le, fun e => by
          obtain ⟨e1, e2⟩ := I.same e
          exact FitAt.all e2, I.rise⟩
end
end Ns
/-! Own layer: three points off one another. -/
namespace Ns
open PySem PySem.Spec PyProof.Rows L2
local macro_rules | `(tactic| walk_at "look") => `(tactic| first | assumption | exact upd_same | (refine (upd_ne (by first | assumption | exact Ne.symm (by assumption))).trans ?_; walk_at "look"))
local macro_rules | `(tactic| walk_at "cond") => `(tactic| first | assumption | omega | (dsimp only; omega) | exact ⟨by omega, by omega⟩ | decide | exact ⟨by decide, by decide, by decide⟩ | exact .inr ⟨by decide, by decide⟩ | exact .inl ⟨by decide, by decide⟩ | exact .inr ⟨by omega, by omega⟩ | exact .inl ⟨by omega, by omega⟩)
local macro_rules | `(tactic| walk_at "rd1") => `(tactic| first
  | refine ⟨_, rfl, ?_⟩
  | refine ⟨_, _, rfl, rfl, ?_⟩
  | refine ⟨rfl, ?_⟩
  | refine ⟨_, _, rfl, rfl, (by walk_at "cond"), ?_⟩
  | refine ⟨_, _, _, _, rfl, rfl, SqL.of (by walk_at "look"), rfl, ?_⟩
  | refine ⟨_, _, _, _, rfl, rfl, SqT.of (by walk_at "look"), rfl, ?_⟩
  | refine ⟨_, _, _, _, rfl, rfl, (by walk_at "look"), rfl, ?_⟩
  | refine .inl ⟨_, rfl, ?_⟩
  | refine ⟨.inl ⟨rfl, _, SqL.of (by walk_at "look")⟩, ?_⟩
  | refine ⟨_, _, rfl, ⟨by omega, by omega, by omega, by omega⟩, ?_⟩
  | refine ⟨_, rfl, (by omega), (by omega), ?_⟩
  | refine And.intro (by walk_at "cond") ?_)
local macro_rules | `(tactic| walk_at "rd") => `(tactic| repeat (walk_at "rd1"))
section
variable {P : Program} {w : World} {K : PySem.W.Frag} {mg : Str → Option Value} {base : Heap}
theorem PcO.off {n : Nat} {T : Tm} {p : Nat} {F : Nat → Int} (h : PcO n T p F) {x y : Nat} (hx : x < n) (hy : y < n) : (F x = F y ∧ 0 ≤ F y) ↔ Off T (· < n) p x y := by
  constructor
  · rintro ⟨e, k⟩
    exact (h.one x y hx hy (by omega) k).mp e
  · intro o
    have kx := (h.out x hx).mpr o.first.2
    have ky := (h.out y hy).mpr o.last.2
    exact ⟨(h.one x y hx hy kx ky).mpr o, ky⟩
/-- the rows of pieces, off each point -/
def OffM (H : Hp) (m : Addr) (n : Nat) (T : Tm) : Prop := ∃ rows : List Addr, H m = some (.lst (rows.map V.ref)) ∧ rows.length = n ∧ ∀ i a, rows[i]? = some a → ∃ F, H a = some (.lst (rowF n F)) ∧ PcO n T i F
theorem OffM.same {H H' : Hp} {m : Addr} {n : Nat} {T : Tm} (s : Same H H') : OffM H m n T → OffM H' m n T := fun ⟨rows, h1, h2, h3⟩ => ⟨rows, s _ _ h1, h2, fun i a h => by
  obtain ⟨F, h4, h5⟩ := h3 i a h
  exact ⟨F, s _ _ h4, h5⟩⟩
theorem OffM.row {H : Hp} {m : Addr} {n : Nat} {T : Tm} (h : OffM H m n T) {i : Nat} (hi : i < n) : ∃ (rows : List Addr) (a : Addr) (F : Nat → Int), SqL K H m (rows.map V.ref) ∧ (rows.map V.ref)[i]? = some (.ref a) ∧ SqL K H a (rowF n F) ∧ PcO n T i F := by
  obtain ⟨rows, h1, h2, h3⟩ := h
  have hi2 : i < rows.length := by omega
  obtain ⟨F, h4, h5⟩ := h3 i _ (List.getElem?_eq_getElem hi2)
  exact ⟨rows, _, F, SqL.of h1, by rw [List.getElem?_map, List.getElem?_eq_getElem hi2]; rfl, SqL.of h4, h5⟩
def Trip (n : Nat) (T : Tm) (a b c : Nat) : Prop := Off T (· < n) c a b ∧ Off T (· < n) b a c ∧ Off T (· < n) a b c
def ThreeOut (H : Hp) (n : Nat) (T : Tm) (u : V) : Prop := (u = .non ∧ NoAT T (· < n)) ∨ ∃ (t : Addr) (a b c : Nat), u = .ref t ∧ H t = some (.tup [pI a, pI b, pI c]) ∧ a < b ∧ b < c ∧ c < n ∧ Trip n T a b c
def sp_three : Sp := fun vs H Q _ => ∃ (v : V) (n : Nat) (ties : List (Nat × Nat)), vs = [v] ∧ Net H v n ties ∧ n ≤ 40 ∧ Good n ties ∧ SyT (tieT ties) ∧ ∀ (u : V) H', Same H H' → ThreeOut H' n (tieT ties) u → Q u H'
theorem cal_three (A : At K mg "_three" s_three) (B : Bi mg) (c_neighbours_arrows : Cal P w K mg base 1 "neighbours_arrows" sp_nearA) (c_pieces_off : Cal P w K mg base 1 "_pieces_off" sp_pcoff) : Cal P w K mg base 2 "_three" sp_three := by
  have nd := sc_three.nd
  refine A.cal sc_three (fun _ _ _ _ _ _ us hl => match us, hl with | [_], _ => rfl) ?_ fun f cdv A' outer s H vs Q E hr h => ⟨_, (pss_cons (ps_set (i := 1) nd rfl (.inr rfl) (pe_cal c_neighbours_arrows hr (by first | decide | omega) (by rfl) passE (pa_cons (pv 0) pa_nil)))
  (pss_cons (ps_setLc (i := 2) (own := [("point", 6)]) rfl nd rfl rfl (sw_true rfl rfl rfl (by decide +kernel)) (pi_range1 (by rfl) B.range (pa_cons (pe_ix (ix_tupK (K := K) rfl) (pv 0) pe_int (fun _ _ => rfl)) pa_nil)) (blkOk_by (own := [("point", 6)]) (N := N_three) (sc := defScope s_three) (by decide +kernel)) (fun _ _ _ _ _ => (pg_name (i := 6) nd rfl (.inl rfl) (.inr rfl))) (fun _ _ _ _ _ => pts_nil) (fun _ _ _ _ _ => (pe_cal c_pieces_off hr (by first | decide | omega) (by rfl) passL (pa_cons (pv 1) (pa_cons (pv 6) pa_nil)))))
  (pss_cons (ps_for passOwn rfl (pi_range1 (by rfl) B.range (pa_cons (pe_ix (ix_tupK (K := K) rfl) (pv 0) pe_int (fun _ _ => rfl)) pa_nil)) (pg_name (i := 3) nd rfl (.inl rfl)) (pss_one (ps_for passOwn rfl (pi_range2 (by rfl) B.range (pa_cons (pe_op op_add (pv 3) pe_int) (pa_cons (pe_ix (ix_tupK (K := K) rfl) (pv 0) pe_int (fun _ _ => rfl)) pa_nil))) (pg_name (i := 4) nd rfl (.inl rfl)) (pss_one (ps_for passOwn rfl (pi_range2 (by rfl) B.range (pa_cons (pe_op op_add (pv 4) pe_int) (pa_cons (pe_ix (ix_tupK (K := K) rfl) (pv 0) pe_int (fun _ _ => rfl)) pa_nil))) (pg_name (i := 5) nd rfl (.inl rfl)) (pss_one (ps_if (PW.pt (pw_and (pt_chain op_eq op_ge (pe_ix (ix_listK (K := K) rfl) (pe_ix (ix_listK (K := K) rfl) (pv 2) (pv 5) (fun _ _ => rfl)) (pv 3) (fun _ _ => rfl)) (pe_ix (ix_listK (K := K) rfl) (pe_ix (ix_listK (K := K) rfl) (pv 2) (pv 5) (fun _ _ => rfl)) (pv 4) (fun _ _ => rfl)) pe_int) (pw_and (pt_chain op_eq op_ge (pe_ix (ix_listK (K := K) rfl) (pe_ix (ix_listK (K := K) rfl) (pv 2) (pv 4) (fun _ _ => rfl)) (pv 3) (fun _ _ => rfl)) (pe_ix (ix_listK (K := K) rfl) (pe_ix (ix_listK (K := K) rfl) (pv 2) (pv 4) (fun _ _ => rfl)) (pv 5) (fun _ _ => rfl)) pe_int) (pw_and1 (pt_chain op_eq op_ge (pe_ix (ix_listK (K := K) rfl) (pe_ix (ix_listK (K := K) rfl) (pv 2) (pv 3) (fun _ _ => rfl)) (pv 4) (fun _ _ => rfl)) (pe_ix (ix_listK (K := K) rfl) (pe_ix (ix_listK (K := K) rfl) (pv 2) (pv 3) (fun _ _ => rfl)) (pv 5) (fun _ _ => rfl)) pe_int))))) (pss_one (ps_ret (pe_tup (pa_cons (pv 3) (pa_cons (pv 4) (pa_cons (pv 5) pa_nil)))))) pss_nil)))))))
  (pss_one (ps_ret pe_non))))), ?_⟩
  · rintro vs H Q E ⟨v, n, ties, rfl, _⟩
    rfl
  · obtain ⟨v, n, ties, rfl, hN, h40, hg, S, q⟩ := h
    refine ⟨_, rfl, v, n, ties, rfl, hN, h40, hg, fun m rows Ls H1 s1 _ _ hD hT => ?_⟩
    obtain ⟨t0, u0, rfl, h0, _⟩ := id (hN.keep (sKt s1))
    refine ⟨_, rfl, _, _, _, _, rfl, rfl, SqT.of h0, rfl, _, rfl, by omega, by omega, fun D hDn => ?_⟩
    refine lc_range (lo := 0) (n := (n : Int).toNat) (fun i H2 => Same H1 H2 ∧ ∃ rs : List Addr, H2 D = some (.lst (rs.map V.ref)) ∧ rs.length = i ∧ ∀ k a, rs[k]? = some a → a ≠ D ∧ ∃ F, H2 a = some (.lst (rowF n F)) ∧ PcO n (tieT ties) k F) ⟨same_laid hDn, [], upd_same, rfl, fun k a h => by simp at h⟩ ?_ ?_
    · rintro i H2 hi ⟨s2, rs, hd, hl, hrs⟩
      have hin : i < n := by omega
      have e0 : ((0 : Int) + (i : Nat)) = ((i : Nat) : Int) := by omega
      rw [e0]
      refine ⟨rfl, _, rfl, _, rfl, m, rows, n, i, Ls, ties, rfl, hD.same s2, hT, S, h40, hin, fun r F H3 s3 hr0 hr3 pc => ?_⟩
      have rD : r ≠ D := fun e => by rw [e, hd] at hr0; cases hr0
      refine ⟨rs.map V.ref, s3 _ _ hd, by rw [List.length_map]; exact sizeBig (by omega), sPut (s2.trans s3) hDn, rs ++ [r], by rw [upd_same, List.map_append]; rfl, by simp [hl], fun k a hk => ?_⟩
      by_cases hk2 : k < rs.length
      · rw [List.getElem?_append_left hk2] at hk
        obtain ⟨n1, F', h1, h2⟩ := hrs k a hk
        exact ⟨n1, F', by rw [upd_ne n1]; exact s3 _ _ h1, h2⟩
      · rw [List.getElem?_append_right (by omega)] at hk
        have k0 : k - rs.length = 0 := by
          have := (List.getElem?_eq_some_iff.mp hk).1
          simp at this
          omega
        rw [k0] at hk
        have : r = a := Option.some.inj hk
        subst this
        exact ⟨rD, F, by rw [upd_ne rD]; exact hr3, by rw [show k = i by omega]; exact pc⟩
    · rintro H2 ⟨s2, rs, hd, hl, hrs⟩
      have hM : OffM H2 D n (tieT ties) := ⟨rs, hd, by omega, fun i a h => (hrs i a h).2⟩
      have s12 := s1.trans s2
      have h02 := s2 _ _ h0
      clear hd hl hrs
      -- one look: whether two points hang together off a third one
      have look : ∀ {σ : L2.St} {i x y : Nat} {p a b : Nat} {Q' : Bool → Hp → Prop}, σ[2]? = some (some (.ref D)) → σ[i]? = some (some (pI p)) → σ[x]? = some (some (pI a)) → σ[y]? = some (some (pI b)) → p < n → a < n → b < n → (∀ c : Bool, (c = true ↔ Off (tieT ties) (· < n) p a b) → Q' c H2) →
          tTest (tChain rEq (rI0 fun i j => V.bl (decide (j ≤ i))) (tOp (rIxL K) (tOp (rIxL K) (tVar 2) (tVar i)) (tVar x)) (tOp (rIxL K) (tOp (rIxL K) (tVar 2) (tVar i)) (tVar y)) (tC (V.int 0))) σ H2 Q' := fun {σ i x y p a b Q'} e2 ei ex ey hp ha hb q' => by
        obtain ⟨rows, ap, F, h1, h2, h3, pc⟩ := hM.row hp
        refine ⟨_, e2, _, ei, _, _, _, .ref ap, rfl, rfl, h1, atI_nat (j := p) h2, _, ex, _, _, _, _, rfl, rfl, h3, atI_nat (j := a) (rowF_at ha), ?_⟩
        refine ⟨_, e2, _, ei, _, _, _, .ref ap, rfl, rfl, h1, atI_nat (j := p) h2, _, ey, _, _, _, _, rfl, rfl, h3, atI_nat (j := b) (rowF_at hb), rfl, _, rfl, ?_⟩
        have key := pc.off ha hb
        refine ifI (fun c => ⟨_, _, rfl, rfl, _, rfl, q' _ ?_⟩) (fun c => ⟨_, rfl, q' _ ?_⟩)
        · rw [← key, decide_eq_true_eq]
          exact ⟨fun k => ⟨c, k⟩, fun k => k.2⟩
        · rw [← key]
          exact ⟨fun k => (nomatch k), fun k => absurd k.1 c⟩
      refine ⟨_, rfl, _, _, _, _, rfl, rfl, SqT.of h02, rfl, _, rfl, by omega, by omega, ?_⟩
      refine for_range (lo := 0) (n := (n : Int).toNat) (fun i σ H3 => ∃ (v3 v4 v5 v6 : Option V), σ = [some (.ref t0), some (.ref m), some (.ref D), v3, v4, v5, v6] ∧ H3 = H2 ∧ ∀ a b c, a < i → a < b → b < c → c < n → ¬ Trip n (tieT ties) a b c) ⟨none, none, none, none, rfl, rfl, fun a b c h => absurd h (by omega)⟩ ?_ ?_
      · rintro a σ H3 ha ⟨v3, v4, v5, v6, rfl, rfl, hno⟩
        have han : a < n := by omega
        have e0 : ((0 : Int) + (a : Nat)) = ((a : Nat) : Int) := by omega
        rw [e0]
        refine ⟨_, rfl, _, _, rfl, rfl, _, rfl, _, _, _, _, rfl, rfl, SqT.of h02, rfl, _, _, rfl, ⟨by omega, by omega, by omega, by omega⟩, ?_⟩
        refine for_range (lo := (a : Int) + 1) (n := ((n : Int) - ((a : Int) + 1)).toNat) (fun i σ H4 => ∃ (v4 v5 : Option V), σ = [some (.ref t0), some (.ref m), some (.ref D), some (pI a), v4, v5, v6] ∧ H4 = H3 ∧ ∀ b c, b < a + 1 + i → a < b → b < c → c < n → ¬ Trip n (tieT ties) a b c) ⟨v4, v5, rfl, rfl, fun b c h1 h2 => absurd h1 (by omega)⟩ ?_ ?_
        · rintro k σ H4 hk ⟨v4, v5, rfl, rfl, hno2⟩
          obtain ⟨b, hb⟩ : ∃ b : Nat, b = a + 1 + k := ⟨_, rfl⟩
          have hbn : b < n := by omega
          have e1 : ((a : Int) + 1 + (k : Nat)) = ((b : Nat) : Int) := by omega
          rw [e1]
          refine ⟨_, rfl, _, _, rfl, rfl, _, rfl, _, _, _, _, rfl, rfl, SqT.of h02, rfl, _, _, rfl, ⟨by omega, by omega, by omega, by omega⟩, ?_⟩
          refine for_range (lo := (b : Int) + 1) (n := ((n : Int) - ((b : Int) + 1)).toNat) (fun i σ H5 => ∃ (v5 : Option V), σ = [some (.ref t0), some (.ref m), some (.ref D), some (pI a), some (pI b), v5, v6] ∧ H5 = H4 ∧ ∀ c, c < b + 1 + i → b < c → c < n → ¬ Trip n (tieT ties) a b c) ⟨v5, rfl, rfl, fun c h1 h2 => absurd h1 (by omega)⟩ ?_ ?_
          · rintro k2 σ H5 hk2 ⟨v5, rfl, rfl, hno3⟩
            obtain ⟨c, hc⟩ : ∃ c : Nat, c = b + 1 + k2 := ⟨_, rfl⟩
            have hcn : c < n := by omega
            have e2 : ((b : Int) + 1 + (k2 : Nat)) = ((c : Nat) : Int) := by omega
            rw [e2]
            have skip : ¬ Trip n (tieT ties) a b c → ∃ (v5 : Option V), [some (V.ref t0), some (.ref m), some (.ref D), some (pI a), some (pI b), some (pI c), v6] = [some (V.ref t0), some (.ref m), some (.ref D), some (pI a), some (pI b), v5, v6] ∧ H5 = H5 ∧ ∀ c, c < b + 1 + (k2 + 1) → b < c → c < n → ¬ Trip n (tieT ties) a b c := fun hn => ⟨_, rfl, rfl, fun c' h1 h2 h3 => by
              by_cases e : c' = c
              · rw [e]; exact hn
              · exact hno3 c' (by omega) h2 h3⟩
            refine look rfl rfl rfl rfl hcn han hbn fun c1 h1 => ?_
            refine ifB (fun k1 => ?_) (fun k1 => iteF (skip fun z => by rw [h1.mpr z.1] at k1; cases k1))
            refine look rfl rfl rfl rfl hbn han hcn fun c2 h2 => ?_
            refine ifB (fun k2' => ?_) (fun k2' => iteF (skip fun z => by rw [h2.mpr z.2.1] at k2'; cases k2'))
            refine look rfl rfl rfl rfl han hbn hcn fun c3 h3 => ?_
            refine ifB (fun k3 => ?_) (fun k3 => skip fun z => by rw [h3.mpr z.2.2] at k3; cases k3)
            refine ⟨_, rfl, _, rfl, _, rfl, by show 3 ≤ sizeLine; decide, fun t ht => ?_⟩
            exact q _ _ (s12.trans (same_laid ht)) (.inr ⟨t, a, b, c, rfl, upd_same, by omega, by omega, hcn, h1.mp k1, h2.mp k2', h3.mp k3⟩)
          · rintro σ H5 ⟨v5, rfl, rfl, hno3⟩
            refine ⟨_, _, rfl, rfl, fun b' c h1 h2 h3 h4 => ?_⟩
            by_cases e : b' = b
            · rw [e] at h3 ⊢
              exact hno3 c (by omega) h3 h4
            · exact hno2 b' c (by omega) h2 h3 h4
        · rintro σ H4 ⟨v4, v5, rfl, rfl, hno2⟩
          refine ⟨_, _, _, _, rfl, rfl, fun a' b c h1 h2 h3 h4 => ?_⟩
          by_cases e : a' = a
          · rw [e] at h2 ⊢
            exact hno2 b c (by omega) h2 h3 h4
          · exact hno a' b c (by omega) h2 h3 h4
      · rintro σ H3 ⟨v3, v4, v5, v6, rfl, rfl, hno⟩
        exact q _ _ s12 (.inl ⟨rfl, noAT_of S fun a b c h1 h2 h3 o1 o2 o3 => hno a b c (by omega) h1 h2 h3 ⟨o1, o2, o3⟩⟩)
end
end Ns
/-! Own layer: long rings, walked. -/
namespace Ns
open PySem PySem.Spec PyProof.Rows L2
local macro_rules | `(tactic| walk_at "look") => `(tactic| first | assumption | exact upd_same | (refine (upd_ne (by first | assumption | exact Ne.symm (by assumption))).trans ?_; walk_at "look"))
local macro_rules | `(tactic| walk_at "cond") => `(tactic| first | assumption | omega | (dsimp only; omega) | exact ⟨by omega, by omega⟩ | decide | exact ⟨by decide, by decide, by decide⟩ | exact .inr ⟨by decide, by decide⟩ | exact .inl ⟨by decide, by decide⟩ | exact .inr ⟨by omega, by omega⟩ | exact .inl ⟨by omega, by omega⟩)
local macro_rules | `(tactic| walk_at "rd1") => `(tactic| first
  | refine ⟨_, rfl, ?_⟩
  | refine ⟨_, _, rfl, rfl, ?_⟩
  | refine ⟨rfl, ?_⟩
  | refine ⟨_, _, rfl, rfl, (by walk_at "cond"), ?_⟩
  | refine ⟨_, _, _, _, rfl, rfl, SqL.of (by walk_at "look"), rfl, ?_⟩
  | refine ⟨_, _, _, _, rfl, rfl, SqT.of (by walk_at "look"), rfl, ?_⟩
  | refine ⟨_, _, _, _, rfl, rfl, (by walk_at "look"), rfl, ?_⟩
  | refine .inl ⟨_, rfl, ?_⟩
  | refine ⟨.inl ⟨rfl, _, SqL.of (by walk_at "look")⟩, ?_⟩
  | refine ⟨_, _, rfl, ⟨by omega, by omega, by omega, by omega⟩, ?_⟩
  | refine ⟨_, rfl, (by omega), (by omega), ?_⟩
  | refine And.intro (by walk_at "cond") ?_)
local macro_rules | `(tactic| walk_at "rd") => `(tactic| repeat (walk_at "rd1"))
abbrev N_long_ring : List Str := ["net", "around", "tied", "x", "y", "z", "shut", "before", "u"]
theorem sc_long_ring : FnScope N_long_ring ["net"] (defScope s_long_ring) := ⟨rfl, rfl, rfl, by decide +kernel, rfl, by decide +kernel, by decide +kernel⟩
section
variable {P : Program} {w : World} {K : PySem.W.Frag} {mg : Str → Option Value} {base : Heap}
/-- shut: x, and what is tied to it but y and z -/
def shL (T : Tm) (x y z : Nat) (u : Nat) : Bool := decide (u = x) || (T u x && !(decide (u = y) || decide (u = z)))
def Clear (n : Nat) (T : Tm) (x y z : Nat) : Prop := ¬ Cn T (fun u => u < n ∧ u ≠ x ∧ (T x u = true → u = y ∨ u = z)) y z
theorem clear_of {n : Nat} {T : Tm} {x y z : Nat} {S : List Ent} (sy : ∀ i j, T i j = T j i) (B : Bfs n T (shL T x y z) y S) (h : z ∉ S.map (·.1)) : Clear n T x y z := fun c => h (bfs_cn B (fun u ⟨h1, h2, h3⟩ => ⟨h1, by
  unfold shL
  rw [decide_eq_false h2, Bool.false_or, sy]
  cases t : T x u with
  | false => rfl
  | true =>
    rcases h3 t with e | e
    · rw [decide_eq_true e]; rfl
    · rw [decide_eq_true e, Bool.or_true]; rfl⟩) c)
theorem condC_of {n : Nat} {T : Tm} (sy : ∀ i j, T i j = T j i) (h : ∀ x y z, x < n → y < n → z < n → T x y = true → T x z = true → y < z → T y z = false → Clear n T x y z) : CondC T (· < n) := by
  intro x y z hx hy hz t1 t2 ne t3 c
  by_cases e : y < z
  · exact h x y z hx hy hz t1 t2 e t3 c
  · exact h x z y hx hz hy t2 t1 (by omega) (by rw [sy]; exact t3) ((c.symm sy).mono fun u hu => ⟨hu.1, hu.2.1, fun t => (hu.2.2 t).symm⟩)
def LongOut (H : Hp) (n : Nat) (T : Tm) (u : V) : Prop := (u = .non ∧ CondC T (· < n)) ∨ ∃ (r : Addr) (R : List Nat), u = .ref r ∧ LongRing n T R ∧ H r = some (.tup (R.map pI))
def sp_long_ring : Sp := fun vs H Q _ => ∃ (v : V) (n : Nat) (ties : List (Nat × Nat)), vs = [v] ∧ Net H v n ties ∧ n ≤ 40 ∧ Good n ties ∧ ∀ (u : V) H', Same H H' → LongOut H' n (tieT ties) u → Q u H'
theorem cal_long_ring {CB : Addr} (A : At K mg "long_ring" s_long_ring) (B : Bi mg) (c_neighbours_nets : Cal P w K mg base 1 "neighbours_nets" sp_neighbours) (c_matrix : Cal P w K mg base 1 "matrix" sp_matrix) (c_reached : Cal P w K mg base 1 "reached" sp_reached) (c_traced : Cal P w K mg base 1 "traced" sp_traced) (c_check_net : Cal P w K mg base 4 "check_net" (sp_check_net K CB)) : Cal P w K mg base 5 "long_ring" sp_long_ring := by
  have nd := sc_long_ring.nd
  refine A.cal sc_long_ring (fun _ _ _ _ _ _ us hl => match us, hl with | [_], _ => rfl) ?_ fun f cdv A' outer s H vs Q E hr h => ⟨_, (pss_cons (ps_expr (pe_cal c_check_net hr (by first | decide | omega) (by rfl) passE (pa_cons (pv 0) pa_nil)))
  (pss_cons (ps_asg (pe_tup (pa_cons (pe_cal c_neighbours_nets hr (by first | decide | omega) (by rfl) passE (pa_cons (pv 0) pa_nil)) (pa_cons (pe_cal c_matrix hr (by first | decide | omega) (by rfl) passE (pa_cons (pv 0) pa_nil)) pa_nil))) (pg_tupK (K := K) (n := 2) rfl rfl (pgs_cons (pg_name (i := 1) nd rfl (.inl rfl)) (pgs_cons (pg_name (i := 2) nd rfl (.inr rfl)) pgs_nil))))
  (pss_cons (ps_for passOwn rfl (pi_range1 (by rfl) B.range (pa_cons (pe_ix (ix_tupK (K := K) rfl) (pv 0) pe_int (fun _ _ => rfl)) pa_nil)) (pg_name (i := 3) nd rfl (.inr rfl)) (pss_one (ps_for passOwn rfl (pi_listK (K := K) rfl (pe_ix (ix_listK (K := K) rfl) (pv 1) (pv 3) (fun _ _ => rfl))) (pg_name (i := 4) nd rfl (.inr rfl)) (pss_one (ps_for passOwn rfl (pi_listK (K := K) rfl (pe_ix (ix_listK (K := K) rfl) (pv 1) (pv 3) (fun _ _ => rfl))) (pg_name (i := 5) nd rfl (.inr rfl)) (pss_one (ps_if (PW.pt (pw_and (pt_cmpR op_lt (pv 4) (pv 5) (nomark _)) (pw_and1 (pt_not (pt_val (pe_ix (ix_listK (K := K) rfl) (pe_ix (ix_listK (K := K) rfl) (pv 2) (pv 4) (fun _ _ => rfl)) (pv 5) (fun _ _ => rfl))))))) (pss_cons (ps_setLc (i := 6) (own := [("u", 8)]) rfl nd rfl rfl (sw_true rfl rfl rfl (by decide +kernel)) (pi_range1 (by rfl) B.range (pa_cons (pe_ix (ix_tupK (K := K) rfl) (pv 0) pe_int (fun _ _ => rfl)) pa_nil)) (blkOk_by (own := [("u", 8)]) (N := N_long_ring) (sc := defScope s_long_ring) (by decide +kernel)) (fun _ _ _ _ _ => (pg_name (i := 8) nd rfl (.inl rfl) (.inr rfl))) (fun _ _ _ _ _ => pts_nil) (fun _ _ _ _ _ => (pe_or (pe_cmpR op_eq (pv 8) (pv 3) (nomark _)) (pe_one (pe_and (pe_ix (ix_listK (K := K) rfl) (pe_ix (ix_listK (K := K) rfl) (pv 2) (pv 8) (fun _ _ => rfl)) (pv 3) (fun _ _ => rfl)) (pe_one (pe_cmpR (op_notIn_seqK (K := K) rfl) (pv 8) (pe_tup (pa_cons (pv 4) (pa_cons (pv 5) pa_nil))) rfl)))))))
  (pss_cons (ps_set (i := 7) nd rfl (.inl rfl) (pe_cal c_reached hr (by first | decide | omega) (by rfl) passE (pa_cons (pv 1) (pa_cons (pv 4) (pa_cons (pv 6) pa_nil)))))
  (pss_one (ps_if (pt_cmp (pc_din (hu_of hr) (pv 5) (pv 7)) rfl) (pss_one (ps_ret (pe_op (op_catAK (K := K) rfl) (pe_tup (pa_cons (pv 3) pa_nil)) (pe_cal c_traced hr (by first | decide | omega) (by rfl) passE (pa_cons (pv 7) (pa_cons (pv 5) pa_nil)))))) pss_nil)))) pss_nil)))))))
  (pss_one (ps_ret pe_non))))), ?_⟩
  · rintro vs H Q E ⟨v, n, ties, rfl, _⟩
    rfl
  · obtain ⟨v, n, ties, rfl, hN, hn, hg, q⟩ := h
    have hT := tieT_sym ties
    have hir : ∀ i, tieT ties i i = false := fun i => tieT_irr hg i
    have hlt := good_len hg
    have hnn : n * n ≤ 40 * 40 := Nat.mul_le_mul hn hn
    refine ⟨_, rfl, v, netD n ties, rfl, dp_net hN, fun _ H0 s0 => ?_, fun e => by rw [isNetD_net.mpr ⟨hn, hg⟩] at e; cases e⟩
    refine ⟨_, rfl, v, n, ties, rfl, hN.keep (sKt s0), by omega, hg, by omega, fun m H1 s1 nm hA => ?_⟩
    have s01 := s0.trans s1
    refine ⟨_, rfl, v, n, ties, rfl, hN.keep (sKt s01), by omega, fun p hp => ⟨by have := hg.1 p hp; omega, (hg.1 p hp).2⟩, fun m2 rows H2 s2 nm2 _ hM => ?_⟩
    have s02 := s01.trans s2
    have hA2 := hA.same s2
    obtain ⟨tn, un, rfl, htn, hun⟩ := id (hN.keep (sKt s02))
    refine ⟨by show 2 ≤ sizeLine; decide, fun tt htt => ⟨tt, _, rfl, SqT.of upd_same, rfl, ?_⟩⟩
    refine ⟨_, _, rfl, _, _, rfl, rfl, ?_⟩
    have s03 := sNew s02 (o := .tup [.ref m, .ref m2]) htt
    have A3 := hA2.same (same_laid (o := .tup [.ref m, .ref m2]) htt)
    have M3 := hM.same (same_laid (o := .tup [.ref m, .ref m2]) htt)
    have htn3 := same_laid (o := .tup [.ref m, .ref m2]) htt _ _ htn
    generalize (upd H2 tt (.tup [.ref m, .ref m2])) = H3 at s03 A3 M3 htn3
    refine ⟨_, rfl, _, _, _, _, rfl, rfl, SqT.of htn3, rfl, _, rfl, by omega, by omega, ?_⟩
    refine for_range (lo := 0) (n := (n : Int).toNat) (fun i σ H4 => ∃ v3 v4 v5 v6 v7, σ = [some (.ref tn), some (.ref m), some (.ref m2), v3, v4, v5, v6, v7, none] ∧ Same H3 H4 ∧ ∀ x y z, x < i → y < n → z < n → tieT ties x y = true → tieT ties x z = true → y < z → tieT ties y z = false → Clear n (tieT ties) x y z)
      ⟨none, none, none, none, none, rfl, Same.refl _, fun x y z h => by omega⟩ ?_ ?_
    · rintro i σ H4 hi ⟨v3, v4, v5, v6, v7, rfl, s4, cl⟩
      have hi : i < n := by omega
      rw [Int.zero_add]
      refine rdA2 A3 s4 rfl rfl hi fun aa haa => ⟨aa, rfl, ⟨_, SqL.of (s4 _ _ haa)⟩, ?_⟩
      refine for_list (K := K) (a := aa) (xs := (nbL n (tieT ties) i).map pI) (fun j σ H5 => ∃ v4 v5 v6 v7, σ = [some (.ref tn), some (.ref m), some (.ref m2), some (pI i), v4, v5, v6, v7, none] ∧ Same H3 H5 ∧ ∀ y ∈ (nbL n (tieT ties) i).take j, ∀ z, z < n → tieT ties i z = true → y < z → tieT ties y z = false → Clear n (tieT ties) i y z)
        ⟨_, _, _, _, rfl, s4, fun y hy => by simp at hy⟩ (fun j σ H5 _ ⟨_, _, _, _, _, s5, _⟩ => SqL.of (s5 _ _ haa)) ?_ ?_
      · rintro j yv σ H5 hy ⟨v4, v5, v6, v7, rfl, s5, cl2⟩
        rw [List.getElem?_map] at hy
        obtain ⟨y, hy1, rfl⟩ := Option.map_eq_some_iff.mp hy
        obtain ⟨hyn, hty⟩ := mem_nbL.mp (List.mem_of_getElem? hy1)
        refine rdA2 A3 s5 rfl rfl hi fun ab hab => ⟨ab, rfl, ⟨_, SqL.of (s5 _ _ hab)⟩, ?_⟩
        refine for_list (K := K) (a := ab) (xs := (nbL n (tieT ties) i).map pI) (fun k σ H6 => ∃ v5 v6 v7, σ = [some (.ref tn), some (.ref m), some (.ref m2), some (pI i), some (pI y), v5, v6, v7, none] ∧ Same H3 H6 ∧ ∀ z ∈ (nbL n (tieT ties) i).take k, y < z → tieT ties y z = false → Clear n (tieT ties) i y z)
          ⟨_, _, _, rfl, s5, fun y hy => by simp at hy⟩ (fun j σ H5 _ ⟨_, _, _, _, s5, _⟩ => SqL.of (s5 _ _ hab)) ?_ ?_
        · rintro k zv σ H6 hz ⟨v5, v6, v7, rfl, s6, cl3⟩
          rw [List.getElem?_map] at hz
          obtain ⟨z, hz1, rfl⟩ := Option.map_eq_some_iff.mp hz
          obtain ⟨hzn, htz⟩ := mem_nbL.mp (List.mem_of_getElem? hz1)
          have nxt : ∀ (v5 v6 v7 : Option V) H7, Same H3 H7 → (y < z → tieT ties y z = false → Clear n (tieT ties) i y z) → ∃ w5 w6 w7, [some (V.ref tn), some (.ref m), some (.ref m2), some (pI i), some (pI y), v5, v6, v7, none] = [some (.ref tn), some (.ref m), some (.ref m2), some (pI i), some (pI y), w5, w6, w7, none] ∧ Same H3 H7 ∧ ∀ z ∈ (nbL n (tieT ties) i).take (k + 1), y < z → tieT ties y z = false → Clear n (tieT ties) i y z := fun v5 v6 v7 H7 s7 h => ⟨_, _, _, rfl, s7, fun u hu => by
            rw [List.take_add_one, List.mem_append, hz1] at hu
            rcases hu with hu | hu
            · exact cl3 u hu
            · rw [List.mem_singleton.mp hu]
              exact h⟩
          refine ⟨_, rfl, _, rfl, _, _, rfl, rfl, _, rfl, ?_⟩
          by_cases c : y < z
          · rw [decide_eq_true (show (y : Int) < (z : Int) by omega)]
            refine iteT ?_
            refine rdM (M3.same s6) rfl rfl rfl hyn hzn ⟨_, rfl, ifN (fun c2 => ?_) (fun c2 => ?_)⟩
            · refine ⟨_, rfl, _, _, _, _, rfl, rfl, SqT.of (s6 _ _ htn3), rfl, _, rfl, by omega, by omega, fun D hD => ?_⟩
              refine comp_range (lo := 0) (n := (n : Int).toNat) (sizeBig (by omega)) (fun u => some (shL (tieT ties) i y z u)) persBo hD ?_ ?_
              · intro u H7 Yes No hu s7 yes no
                rw [Int.zero_add]
                have hun : u < n := by omega
                refine ⟨rfl, iteT (B := No H7) ?_⟩
                refine ⟨_, rfl, _, rfl, rfl, _, rfl, ?_⟩
                by_cases e : u = i
                · have e1 : decide (V.int (u : Int) = pI i) = true := by rw [e]; exact decide_eq_true rfl
                  rw [e1]
                  refine iteT ?_
                  exact yes true (by show some (shL _ _ _ _ _) = _; unfold shL; rw [decide_eq_true e]; rfl) _ _ (Same.refl H7) rfl
                · have e1 : decide (V.int (u : Int) = pI i) = false := decide_eq_false fun h => e (by injection h with h; omega)
                  rw [e1]
                  refine iteF ?_
                  refine rdM (M3.same (s6.trans s7)) rfl rfl rfl hun hi ⟨_, rfl, ?_⟩
                  cases e2 : tieT ties u i with
                  | false =>
                    refine iteF ?_
                    exact yes false (by show some (shL _ _ _ _ _) = _; unfold shL; rw [decide_eq_false e, e2]; rfl) _ _ (Same.refl H7) rfl
                  | true =>
                    refine iteT ?_
                    refine ⟨_, rfl, _, rfl, _, rfl, by show 2 ≤ sizeLine; decide, fun t2 ht2 => ⟨t2, [y, z].map pI, rfl, .inr (SqT.of upd_same), rfl, all_flat _, ?_⟩⟩
                    refine yes (!inV (pI u) ([y, z].map pI)) ?_ _ _ (same_laid ht2) rfl
                    show some (shL _ _ _ _ _) = _
                    unfold shL
                    rw [decide_eq_false e, e2, inV_nats]
                    congr 1
                    simp
              · intro H7 ys s7 hD7 pr
                have eys : ys = rowV n (shL (tieT ties) i y z) := by
                  rw [bo_eq pr, List.filterMap_eq_map', List.map_map, show ((n : Int)).toNat = n from Int.toNat_natCast n]
                  rfl
                subst eys
                have s37 := s6.trans s7
                refine ⟨_, rfl, _, rfl, _, rfl, m, D, n, y, tieT ties, _, rfl, A3.same s37, hyn, by omega, hD7, fun d S H8 s8 nd8 B8 hd8 => ?_⟩
                have s38 := s37.trans s8
                refine ⟨_, rfl, _, rfl, d, _, rfl, DGet.k (k := .inl (z : Int)) hd8, ?_⟩
                refine ⟨_, rfl, ?_⟩
                rw [ent_some]
                by_cases hz8 : z ∈ S.map (·.1)
                · rw [decide_eq_true hz8]
                  obtain ⟨⟨u, p, dd⟩, he, e⟩ := List.mem_map.mp hz8
                  have e : u = z := e
                  subst e
                  obtain ⟨R, hR, hl⟩ := tr_ex B8.toBfsW dd u p he
                  have hlen := tr_len B8.toBfsW hR
                  rw [List.length_cons] at hlen
                  refine iteT ?_
                  refine ⟨_, rfl, by show 1 ≤ sizeLine; decide, fun t3 ht3 => ?_⟩
                  refine ⟨_, rfl, _, rfl, d, S, u, R, rfl, .inl (same_laid ht3 _ _ hd8), B8.nd, hR, by omega, fun t H9 s9 nt ht => ?_⟩
                  have yu : y ≠ u := fun e => by omega
                  have yi : y ≠ i := fun e => by rw [e, hir] at hty; cases hty
                  have LR := long_of hT hir B8 hR hi hty htz yu c2 (by unfold shL; rw [decide_eq_true rfl]; rfl) (by unfold shL; rw [decide_eq_false yi, decide_eq_true rfl, Bool.true_or, Bool.not_true, Bool.and_false]; rfl)
                    (fun v tv n1 n2 => by unfold shL; rw [tv, decide_eq_false n1, decide_eq_false n2, Bool.or_false, Bool.not_false, Bool.and_true, Bool.or_true])
                  refine ⟨t3, t, _, _, rfl, rfl, SqT.of (s9 _ _ upd_same), SqT.of ht, ?_, (fun e => nomatch e), fun _ e => ?_, fun _ _ p4 hp4 => ?_⟩
                  · rw [List.length_map, List.length_reverse, List.length_cons]
                    exact Nat.le_of_lt (sizeBig (show 1 + (R.length + 1) ≤ 16000000 by omega))
                  · have := congrArg List.length e
                    rw [List.length_map, List.length_reverse, List.length_cons] at this
                    cases this
                  · exact q _ _ (s03.trans ((sNew s38 ht3).trans (s9.trans (same_laid hp4)))) (.inr ⟨p4, _, rfl, LR, by rw [upd_same]; rfl⟩)
                · rw [decide_eq_false hz8]
                  refine iteF ?_
                  exact nxt _ _ _ _ s38 fun _ _ => clear_of hT B8 hz8
            · exact nxt _ _ _ _ s6 fun _ h => by rw [c2] at h; cases h
          · rw [decide_eq_false (show ¬ (y : Int) < (z : Int) by omega)]
            refine iteF (iteF ?_)
            exact nxt _ _ _ _ s6 fun h => absurd h c
        · rintro σ H6 ⟨v5, v6, v7, rfl, s6, cl3⟩
          rw [List.length_map, List.take_length] at cl3
          refine ⟨_, _, _, _, rfl, s6, fun u hu z hz t => ?_⟩
          rw [List.take_add_one, List.mem_append, hy1] at hu
          rcases hu with hu | hu
          · exact cl2 u hu z hz t
          · rw [List.mem_singleton.mp hu]
            exact cl3 z (mem_nbL.mpr ⟨hz, t⟩)
      · rintro σ H5 ⟨v4, v5, v6, v7, rfl, s5, cl2⟩
        rw [List.length_map, List.take_length] at cl2
        refine ⟨_, _, _, _, _, rfl, s5, fun x y z hx hy hz t1 t2 => ?_⟩
        by_cases e : x = i
        · subst e
          exact cl2 y (mem_nbL.mpr ⟨hy, t1⟩) z hz t2
        · exact cl x y z (by omega) hy hz t1 t2
    · rintro σ H4 ⟨v3, v4, v5, v6, v7, rfl, s4, cl⟩
      exact q _ _ (s03.trans s4) (.inl ⟨rfl, condC_of hT fun x y z hx => cl x y z (by omega)⟩)
end
end Ns
/-! Own layer: the opposite of a net, orders by arrows, lines told of a net. -/
namespace Ns
open PySem PySem.Spec PyProof.Rows L2
local macro_rules | `(tactic| walk_at "look") => `(tactic| first | assumption | exact upd_same | (refine (upd_ne (by first | assumption | exact Ne.symm (by assumption))).trans ?_; walk_at "look"))
local macro_rules | `(tactic| walk_at "cond") => `(tactic| first | assumption | omega | (dsimp only; omega) | exact ⟨by omega, by omega⟩ | decide | exact ⟨by decide, by decide, by decide⟩ | exact .inr ⟨by decide, by decide⟩ | exact .inl ⟨by decide, by decide⟩ | exact .inr ⟨by omega, by omega⟩ | exact .inl ⟨by omega, by omega⟩)
local macro_rules | `(tactic| walk_at "rd1") => `(tactic| first
  | refine ⟨_, rfl, ?_⟩
  | refine ⟨_, _, rfl, rfl, ?_⟩
  | refine ⟨rfl, ?_⟩
  | refine ⟨_, _, rfl, rfl, (by walk_at "cond"), ?_⟩
  | refine ⟨_, _, _, _, rfl, rfl, SqL.of (by walk_at "look"), rfl, ?_⟩
  | refine ⟨_, _, _, _, rfl, rfl, SqT.of (by walk_at "look"), rfl, ?_⟩
  | refine ⟨_, _, _, _, rfl, rfl, (by walk_at "look"), rfl, ?_⟩
  | refine .inl ⟨_, rfl, ?_⟩
  | refine ⟨.inl ⟨rfl, _, SqL.of (by walk_at "look")⟩, ?_⟩
  | refine ⟨_, _, rfl, ⟨by omega, by omega, by omega, by omega⟩, ?_⟩
  | refine ⟨_, rfl, (by omega), (by omega), ?_⟩
  | refine And.intro (by walk_at "cond") ?_)
local macro_rules | `(tactic| walk_at "rd") => `(tactic| repeat (walk_at "rd1"))
abbrev N_opposite : List Str := ["net", "there", "pairs", "x", "pair", "y"]
theorem sc_opposite : FnScope N_opposite ["net"] (defScope s_opposite) := ⟨rfl, rfl, rfl, by decide +kernel, rfl, by decide +kernel, by decide +kernel⟩
theorem ties_len {n : Nat} {ties : List (Nat × Nat)} (hg : Good n ties) (hn : n ≤ 40) : ties.length ≤ 1600 := by
  have nd : ties.Nodup := hg.2.imp fun {a b} h e => by subst e; unfold ltP at h; omega
  have h1 := sub_len ties (square n) nd fun p hp => mem_square (by have := hg.1 p hp; exact ⟨by omega, this.2⟩)
  have h2 := square_len n
  have h3 : n * n ≤ 40 * 40 := Nat.mul_le_mul hn hn
  omega
section
variable {P : Program} {w : World} {K : PySem.W.Frag} {mg : Str → Option Value} {base : Heap}
def sp_opposite : Sp := fun vs H Q _ => ∃ (v : V) (n : Nat) (ties : List (Nat × Nat)), vs = [v] ∧ Net H v n ties ∧ n ≤ 40 ∧ Good n ties ∧ ∀ (v' : V) (H' : Hp), Same H H' → Net H' v' n (coT n ties) → Q v' H'
theorem cal_opposite {CB : Addr} (A : At K mg "opposite" s_opposite) (B : Bi mg) (c_check_net : Cal P w K mg base 4 "check_net" (sp_check_net K CB)) : Cal P w K mg base 5 "opposite" sp_opposite := by
  have nd := sc_opposite.nd
  refine A.cal sc_opposite (fun _ _ _ _ _ _ us hl => match us, hl with | [_], _ => rfl) ?_ fun f cdv A' outer s H vs Q E0 hr h => ⟨_, (pss_cons (ps_expr (pe_cal c_check_net hr (by first | decide | omega) (by rfl) passE (pa_cons (pv 0) pa_nil)))
  (pss_cons (ps_set (i := 1) nd rfl (.inr rfl) (pe_dcT (own := [("pair", 4)]) hr.units0 rfl nd (pi_tupK (K := K) rfl (pe_ix (ix_tupK (K := K) rfl) (pv 0) pe_int (fun _ _ => rfl))) (blkOk_by (own := [("pair", 4)]) (N := N_opposite) (sc := defScope s_opposite) (by decide +kernel)) ⟨fun _ _ _ _ _ => (pg_name (i := 4) nd rfl (.inl rfl) (.inr rfl)), fun _ _ _ _ _ => pts_nil, fun _ _ _ _ _ => (pv 4), fun _ _ _ _ _ => pe_bl⟩))
  (pss_cons (ps_set (i := 2) nd rfl (.inl rfl) (pe_lst pa_nil))
  (pss_cons (ps_for passOwn rfl (pi_range1 (by rfl) B.range (pa_cons (pe_ix (ix_tupK (K := K) rfl) (pv 0) pe_int (fun _ _ => rfl)) pa_nil)) (pg_name (i := 3) nd rfl (.inr rfl)) (pss_one (ps_expr (pe_bm PySem.F.plainAttrs_list PySem.F.slot_list_extend PySem.F.type_list_extend mt_extend (pv 2) (pa_cons (pe_lc (own := [("y", 5)]) rfl nd (pi_range2 (by rfl) B.range (pa_cons (pe_op op_add (pv 3) pe_int) (pa_cons (pe_ix (ix_tupK (K := K) rfl) (pv 0) pe_int (fun _ _ => rfl)) pa_nil))) (blkOk_by (own := [("y", 5)]) (N := N_opposite) (sc := defScope s_opposite) (by decide +kernel)) (fun _ _ _ _ _ => (pg_name (i := 5) nd rfl (.inl rfl) (.inr rfl))) (fun _ _ _ _ _ => (pts_one (pt_cmp (pc_dnotin (hu_of hr) (pe_tup (pa_cons (pv 3) (pa_cons (pv 5) pa_nil))) (pv 1)) rfl))) (fun _ _ _ _ _ => (pe_tup (pa_cons (pv 3) (pa_cons (pv 5) pa_nil))))) pa_nil)))))
  (pss_one (ps_ret (pe_tup (pa_cons (pe_ix (ix_tupK (K := K) rfl) (pv 0) pe_int (fun _ _ => rfl)) (pa_cons (pe_callTy (call_tuple_ofK (K := K) rfl) (by rfl) B.tuple (by decide +kernel) (pa_cons (pv 2) pa_nil)) pa_nil))))))))), ?_⟩
  · rintro vs H Q E ⟨v, n, ties, rfl, _⟩
    rfl
  · obtain ⟨v, n, ties, rfl, hN, hn, hg, q⟩ := h
    refine ⟨_, rfl, v, netD n ties, rfl, dp_net hN, fun _ H0 s0 => ?_, fun e => by rw [isNetD_net.mpr ⟨hn, hg⟩] at e; cases e⟩
    obtain ⟨t0, u0, rfl, h0, t2, us, rfl, h2, pr⟩ := hN.keep (sKt s0)
    have h0 : H0 t0 = some (.tup [pI n, .ref t2]) := h0
    have lpr := pr.length
    have lti := ties_len hg hn
    refine ⟨_, rfl, _, _, _, _, rfl, rfl, SqT.of h0, rfl, t2, rfl, ⟨_, SqT.of h2⟩, fun dT hdT => ?_⟩
    refine turns_it (walk_tup (K := K) (a := t2) (xs := us)) (fun i H7 => Same H0 H7 ∧ ∃ kvs, H7 dT = some (.dT kvs) ∧ kvs.length ≤ i ∧ ∀ q, hasP kvs q = decide (q ∈ ties.take i)) ⟨same_laid hdT, [], upd_same, Nat.le_refl _, fun q => by simp [hasP, valV]⟩ (fun i H7 _ ⟨s7, _⟩ => SqT.of (s7 _ _ h2)) ?_ ?_
    · rintro i v H7 H7' hi ⟨s7, kvs, hk, lk, hh⟩ ⟨rfl, hv⟩
      obtain ⟨p, hp, tp, rfl, htp⟩ := pAtL (pMono persPr (sKt s7) pr) hv
      refine ⟨rfl, ?_⟩
      unfold tYes
      dsimp only
      rw [if_pos rfl]
      have lp := length_putK kvs (key p) (V.bl true)
      refine ⟨_, rfl, kvs, key p, tp, rfl, htp, hk, sizeBig (by omega), sPut s7 hdT, putK kvs (key p) (.bl true), upd_same, by omega, fun q => ?_⟩
      rw [hasP_put, hh, List.take_add_one, hp, Bool.eq_iff_iff, Bool.or_eq_true, decide_eq_true_eq, decide_eq_true_eq, decide_eq_true_eq, List.mem_append]
      show q = p ∨ q ∈ ties.take i ↔ q ∈ ties.take i ∨ q ∈ [p]
      rw [List.mem_singleton]
      exact Or.comm
    rintro H1 ⟨s1, kvs, hkd, lk, hh⟩
    rw [lpr, List.take_length] at hh
    refine ⟨Nat.zero_le _, fun p hp => ?_⟩
    have s2 := sNew s1 (o := .lst []) hp
    refine ⟨_, rfl, _, _, _, _, rfl, rfl, SqT.of (s2 _ _ h0), rfl, _, rfl, by omega, by omega, ?_⟩
    refine for_range (lo := 0) (n := (n : Int).toNat) (fun i σ H3 => ∃ v3, σ = [some (.ref t0), some (.ref dT), some (.ref p), v3, none, none] ∧ Same H1 H3 ∧ ∃ us, H3 p = some (.lst us) ∧ Paired (Pr H3) us (((List.range i).flatMap (rowP n)).filter fun q => !tieT ties q.1 q.2)) ⟨none, rfl, same_laid hp, [], upd_same, by simpa using Paired.nil⟩ ?_ ?_
    · rintro i σ H3 hi ⟨v3, rfl, s3, us3, hu, pr3⟩
      refine ⟨_, rfl, .inl ⟨rfl, _, SqL.of hu⟩, _, rfl, _, _, rfl, rfl, _, rfl, _, _, _, _, rfl, rfl, SqT.of (s3 _ _ (s1 _ _ h0)), rfl, _, _, rfl, ⟨by omega, by omega, by omega, by omega⟩, fun D hD => ?_⟩
      have hpD : p ≠ D := ne_of_none hu hD
      have lr : us3.length ≤ 1000 * 1000 := by
        have h1 := flat_len (rowP n) n (rowP_len n) (List.range i)
        rw [List.length_range] at h1
        have h2 := pr3.length
        have h3 : i * n ≤ 40 * 40 := Nat.mul_le_mul (by omega) hn
        have h4 := List.length_filter_le (fun q : Nat × Nat => !tieT ties q.1 q.2) ((List.range i).flatMap (rowP n))
        omega
      refine comp_range (n := ((n : Int) - (0 + (i : Int) + 1)).toNat) (sizeBig (by omega)) (fun k => if tieT ties i (i + 1 + k) then none else some (i, i + 1 + k)) persPr hD ?_ ?_
      · intro k H4 Yes No hk s4 yes no
        refine ⟨rfl, _, rfl, _, rfl, by show 2 ≤ sizeLine; decide, fun t ht => ?_⟩
        have s5 := same_laid (o := .tup [.int (0 + (i : Int)), .int (0 + (i : Int) + 1 + (k : Int))]) ht
        refine ⟨_, rfl, dT, _, rfl, .inr ⟨kvs, key (i, i + 1 + k), t, .inl (s5 _ _ (s4 _ _ (s3 _ _ hkd))), rfl, ?_, rfl⟩, ?_⟩
        · show upd H4 t (.tup [.int (0 + (i : Int)), .int (0 + (i : Int) + 1 + (k : Int))]) t = some (.tup [pI i, pI (i + 1 + k)])
          rw [upd_same]
          unfold pI
          rw [show (0 + (i : Int)) = ((i : Nat) : Int) by omega, show ((i : Nat) : Int) + 1 + (k : Int) = ((i + 1 + k : Nat) : Int) by omega]
        · refine ⟨_, rfl, ?_⟩
          show if (!hasP kvs (i, i + 1 + k)) = true then _ else _
          have e : hasP kvs (i, i + 1 + k) = tieT ties i (i + 1 + k) := by
            rw [hh, Bool.eq_iff_iff, decide_eq_true_eq]
            show _ ↔ decide ((i, i + 1 + k) ∈ ties ∨ (i + 1 + k, i) ∈ ties) = true
            rw [decide_eq_true_eq]
            exact ⟨.inl, fun h => h.elim id fun h => by have := (hg.1 _ h).1; dsimp only at this; omega⟩
          rw [e]
          refine ifN (fun c => ?_) (fun c => ?_)
          · refine ⟨_, rfl, _, rfl, by show 2 ≤ sizeLine; decide, fun t6 h6 => ?_⟩
            exact yes (i, i + 1 + k) (by rw [c]; rfl) _ _ (s5.trans (same_laid h6)) (prMk upd_same (by simp) (by simp <;> omega))
          · exact no (by rw [c]; rfl) _ s5
      · intro H4 ys s4 hy pr4
        have e : (List.range ((n : Int) - (0 + (i : Int) + 1)).toNat).filterMap (fun k => if tieT ties i (i + 1 + k) = true then none else some (i, i + 1 + k)) = (rowP n i).filter fun q => !tieT ties q.1 q.2 := by
          rw [← rowP_eq (n := n) (x := i) (m := ((n : Int) - (0 + (i : Int) + 1)).toNat) (by omega)]
          generalize List.range ((n : Int) - (0 + (i : Int) + 1)).toNat = L
          induction L with
          | nil => rfl
          | cons k r ih =>
            simp only [List.filterMap_cons] at ih ⊢
            cases c : tieT ties i (i + 1 + k) <;> simp [c, ih]
        rw [e] at pr4
        have l4 := pr4.length
        have l5 := List.length_filter_le (fun q : Nat × Nat => !tieT ties q.1 q.2) (rowP n i)
        have l6 := rowP_len n i
        have hu4 := s4 _ _ hu
        refine ⟨_, _, _, _, rfl, rfl, hu4, hy, Nat.le_of_lt (sizeBig (by omega)), ?_⟩
        have kt : KeepT H4 (upd H4 p (.lst (us3 ++ ys))) := KeepT.lst hu4
        refine ⟨_, rfl, sPut (s3.trans s4) hp, _, upd_same, ?_⟩
        rw [List.range_succ, List.flatMap_append, List.filter_append]
        refine pApp (pMono persPr ((sKt s4).trans kt) pr3) ?_
        simpa using pMono persPr kt pr4
    · rintro σ H3 ⟨v3, rfl, s3, us3, hu, pr3⟩
      have h30 := s3 _ _ (s1 _ _ h0)
      refine ⟨_, rfl, _, _, _, _, rfl, rfl, SqT.of h30, rfl, _, rfl, p, us3, rfl, .inl ⟨SqL.of hu, fun t ht => ?_⟩⟩
      have x4 := same_laid (o := .tup us3) ht
      refine ⟨by show 2 ≤ sizeLine; decide, fun t5 ht5 => ?_⟩
      have x5 := same_laid (o := .tup [pI n, .ref t]) ht5
      exact q _ _ ((s0.trans s1).trans (s3.trans (x4.trans x5))) ⟨t5, .ref t, rfl, upd_same, t, us3, rfl, x5 _ _ upd_same, pMono persPr (sKt (x4.trans x5)) pr3⟩
end
end Ns
/-! Own layer: stretches told. -/
namespace Ns
open PySem PySem.Spec PyProof.Rows L2
local macro_rules | `(tactic| walk_at "look") => `(tactic| first | assumption | exact upd_same | (refine (upd_ne (by first | assumption | exact Ne.symm (by assumption))).trans ?_; walk_at "look"))
local macro_rules | `(tactic| walk_at "cond") => `(tactic| first | assumption | omega | (dsimp only; omega) | exact ⟨by omega, by omega⟩ | decide | exact ⟨by decide, by decide, by decide⟩ | exact .inr ⟨by decide, by decide⟩ | exact .inl ⟨by decide, by decide⟩ | exact .inr ⟨by omega, by omega⟩ | exact .inl ⟨by omega, by omega⟩)
local macro_rules | `(tactic| walk_at "rd1") => `(tactic| first
  | refine ⟨_, rfl, ?_⟩
  | refine ⟨_, _, rfl, rfl, ?_⟩
  | refine ⟨rfl, ?_⟩
  | refine ⟨_, _, rfl, rfl, (by walk_at "cond"), ?_⟩
  | refine ⟨_, _, _, _, rfl, rfl, SqL.of (by walk_at "look"), rfl, ?_⟩
  | refine ⟨_, _, _, _, rfl, rfl, SqT.of (by walk_at "look"), rfl, ?_⟩
  | refine ⟨_, _, _, _, rfl, rfl, (by walk_at "look"), rfl, ?_⟩
  | refine .inl ⟨_, rfl, ?_⟩
  | refine ⟨.inl ⟨rfl, _, SqL.of (by walk_at "look")⟩, ?_⟩
  | refine ⟨_, _, rfl, ⟨by omega, by omega, by omega, by omega⟩, ?_⟩
  | refine ⟨_, rfl, (by omega), (by omega), ?_⟩
  | refine And.intro (by walk_at "cond") ?_)
local macro_rules | `(tactic| walk_at "rd") => `(tactic| repeat (walk_at "rd1"))
abbrev N_stretches_of : List Str := ["net", "ring", "three", "a", "b", "c", "ahead", "x", "y", "story", "point", "ends", "_", "row"]
theorem sc_stretches_of : FnScope N_stretches_of ["net"] (defScope s_stretches_of) := ⟨rfl, rfl, rfl, by decide +kernel, rfl, by decide +kernel, by decide +kernel⟩
section
variable {P : Program} {w : World} {K : PySem.W.Frag} {mg : Str → Option Value} {base : Heap}
def YesS (n : Nat) (T : Tm) : Prop := CondC T (· < n) ∧ NoAT T (· < n)
/-- what is told of stretches -/
def ToldS (H : Hp) (n : Nat) (ties : List (Nat × Nat)) (t : Addr) : Prop := ∃ (ans : Bool) (s : Addr) (d : PyData), H t = some (.tup [.bl ans, .ref s]) ∧ TN 41 H (.ref s) d ∧ (ans = true ↔ YesS n (tieT ties)) ∧ (ans = true → StrD n (tieT ties) d) ∧ (ans = false → BentD n (tieT ties) d)
theorem off_told {H : Hp} {n : Nat} {T : Tm} {a b c : Nat} {u : V} (S : SyT T) (h : OffOut H n T a b c u) (o : Off T (· < n) c a b) : ∃ (t : Addr) (W : List Nat), u = .ref t ∧ H t = some (.tup (W.map pI)) ∧ WayR n T a b c W := by
  have oa := o.first.2
  have ob := o.last.2
  have sh : ∀ x, offF T c x = false ↔ x ≠ c ∧ T x c = false := fun x => off_shut S.sy
  rcases h with ⟨h | h, _⟩ | ⟨_, _, E, B, h⟩
  · rw [(sh a).mpr oa] at h
    cases h
  · rw [(sh b).mpr ob] at h
    cases h
  · rcases h with ⟨_, nb⟩ | ⟨t, R, p, rfl, ht, tr, _⟩
    · exact absurd (bfs_cn B (fun u hu => ⟨hu.1, (sh u).mpr hu.2⟩) (off_cn o)) nb
    · exact ⟨t, _, rfl, ht, wayR_of S.sy B oa tr⟩
theorem tna_prZ {N : Nat} {H : Hp} (h2 : 2 ≤ N) : ∀ {us : List V} {R : List (Int × Int)}, Paired (PrZ H) us R → TNA N H us (R.map pairZ)
  | _, _, .nil => .nil
  | _, _, .cons ⟨t, e, h⟩ r => by
    rw [e]
    exact .cons (.tup h h2 (.cons (.int _) (.cons (.int _) .nil))) (tna_prZ h2 r)
theorem way_len {n : Nat} {T : Tm} {a b c : Nat} {W : List Nat} (w : WayR n T a b c W) : W.length ≤ n := by
  have := sub_len W (List.range n) w.nd fun x hx => List.mem_range.mpr (w.lt x hx)
  rwa [List.length_range] at this
def sp_stretches_of : Sp := fun vs H Q _ => ∃ (v : V) (n : Nat) (ties : List (Nat × Nat)), vs = [v] ∧ Net H v n ties ∧ n ≤ 40 ∧ Good n ties ∧ ∀ (t : Addr) (H' : Hp), Same H H' → ToldS H' n ties t → Q (.ref t) H'
theorem cal_stretches_of (A : At K mg "stretches_of" s_stretches_of) (B : Bi mg) (c_long_ring : Cal P w K mg base 5 "long_ring" sp_long_ring) (c_three : Cal P w K mg base 2 "_three" sp_three) (c_way_off : Cal P w K mg base 5 "way_off" sp_way_off) (c_arrows_of : Cal P w K mg base 4 "arrows_of" sp_arrows_of) (c_opposite : Cal P w K mg base 5 "opposite" sp_opposite) : Cal P w K mg base 7 "stretches_of" sp_stretches_of := by
  have nd := sc_stretches_of.nd
  refine A.cal sc_stretches_of (fun _ _ _ _ _ _ us hl => match us, hl with | [_], _ => rfl) ?_ fun f cdv A' outer s H vs Q E hr h => ⟨_, (pss_cons (ps_set (i := 1) nd rfl (.inl rfl) (pe_cal c_long_ring hr (by first | decide | omega) (by rfl) passE (pa_cons (pv 0) pa_nil)))
  (pss_cons (ps_if (pt_cmpR op_notN (pv 1) pe_non (nomark _)) (pss_one (ps_ret (pe_tup (pa_cons pe_bl (pa_cons (pe_tup (pa_cons pe_str (pa_cons (pv 1) pa_nil))) pa_nil))))) pss_nil)
  (pss_cons (ps_set (i := 2) nd rfl (.inl rfl) (pe_cal c_three hr (by first | decide | omega) (by rfl) passE (pa_cons (pv 0) pa_nil)))
  (pss_cons (ps_if (pt_cmpR op_notN (pv 2) pe_non (nomark _)) (pss_cons (ps_asg (pv 2) (pg_tupK (K := K) (n := 3) rfl rfl (pgs_cons (pg_name (i := 3) nd rfl (.inl rfl)) (pgs_cons (pg_name (i := 4) nd rfl (.inl rfl)) (pgs_cons (pg_name (i := 5) nd rfl (.inl rfl)) pgs_nil)))))
  (pss_one (ps_ret (pe_tup (pa_cons pe_bl (pa_cons (pe_tup (pa_cons pe_str (pa_cons (pv 3) (pa_cons (pv 4) (pa_cons (pv 5) (pa_cons (pe_cal c_way_off hr (by first | decide | omega) (by rfl) passE (pa_cons (pv 0) (pa_cons (pv 3) (pa_cons (pv 4) (pa_cons (pv 5) pa_nil))))) (pa_cons (pe_cal c_way_off hr (by first | decide | omega) (by rfl) passE (pa_cons (pv 0) (pa_cons (pv 3) (pa_cons (pv 5) (pa_cons (pv 4) pa_nil))))) (pa_cons (pe_cal c_way_off hr (by first | decide | omega) (by rfl) passE (pa_cons (pv 0) (pa_cons (pv 4) (pa_cons (pv 5) (pa_cons (pv 3) pa_nil))))) pa_nil)))))))) pa_nil)))))) pss_nil)
  (pss_cons (ps_setLc (i := 6) (own := [("_", 12)]) rfl nd rfl rfl (sw_true rfl rfl rfl (by decide +kernel)) (pi_range1 (by rfl) B.range (pa_cons (pe_ix (ix_tupK (K := K) rfl) (pv 0) pe_int (fun _ _ => rfl)) pa_nil)) (blkOk_by (own := [("_", 12)]) (N := N_stretches_of) (sc := defScope s_stretches_of) (by decide +kernel)) (fun _ _ _ _ _ => (pg_name (i := 12) nd rfl (.inl rfl) (.inr rfl))) (fun _ _ _ _ _ => pts_nil) (fun _ _ _ _ _ => pe_dnewK))
  (pss_cons (ps_for passOwn rfl (pi_tupK (K := K) rfl (pe_ix (ix_tupK (K := K) rfl) (pe_cal c_arrows_of hr (by first | decide | omega) (by rfl) passE (pa_cons (pe_cal c_opposite hr (by first | decide | omega) (by rfl) passE (pa_cons (pv 0) pa_nil)) pa_nil)) pe_int (fun _ _ => rfl))) (pg_tupK (K := K) (n := 2) rfl rfl (pgs_cons (pg_name (i := 7) nd rfl (.inl rfl)) (pgs_cons (pg_name (i := 8) nd rfl (.inl rfl)) pgs_nil))) (pss_one (ps_dput (hu_of hr) (pe_ix (ix_listK (K := K) rfl) (pv 6) (pv 8) (fun _ _ => rfl)) (pv 7) pe_bl rfl)))
  (pss_cons (ps_set (i := 9) nd rfl (.inl rfl) (pe_lst pa_nil))
  (pss_cons (ps_for passOwn rfl (pi_range1 (by rfl) B.range (pa_cons (pe_ix (ix_tupK (K := K) rfl) (pv 0) pe_int (fun _ _ => rfl)) pa_nil)) (pg_name (i := 10) nd rfl (.inr rfl)) (pss_cons (ps_setLc (i := 11) (own := [("row", 13)]) rfl nd rfl rfl (sw_true rfl rfl rfl (by decide +kernel)) (pi_listK (K := K) rfl (pv 6)) (blkOk_by (own := [("row", 13)]) (N := N_stretches_of) (sc := defScope s_stretches_of) (by decide +kernel)) (fun _ _ _ _ _ => (pg_name (i := 13) nd rfl (.inl rfl) (.inr rfl))) (fun _ _ _ _ _ => (pts_one (pt_cmp (pc_dnotin (hu_of hr) (pv 10) (pv 13)) rfl))) (fun _ _ _ _ _ => (pe_callB call_lenD (by rfl) B.len (by decide +kernel) (pa_cons (pv 13) pa_nil))))
  (pss_one (ps_expr (pe_bm PySem.F.plainAttrs_list PySem.F.slot_list_append PySem.F.type_list_append mt_append (pv 9) (pa_cons (pe_tup (pa_cons (pe_callB call_lenD (by rfl) B.len (by decide +kernel) (pa_cons (pe_ix (ix_listK (K := K) rfl) (pv 6) (pv 10) (fun _ _ => rfl)) pa_nil)) (pa_cons (pe_callB (cr_max rfl) (by rfl) B.max (by decide +kernel) (pa_cons (pv 11) pa_nil)) pa_nil))) pa_nil))))))
  (pss_one (ps_ret (pe_tup (pa_cons pe_bl (pa_cons (pe_callTy (call_tuple_ofK (K := K) rfl) (by rfl) B.tuple (by decide +kernel) (pa_cons (pv 9) pa_nil)) pa_nil))))))))))))), ?_⟩
  · rintro vs H Q E ⟨v, n, ties, rfl, _⟩
    rfl
  · obtain ⟨v, n, ties, rfl, hN, h40, hg, q⟩ := h
    have S : SyT (tieT ties) := ⟨fun x y => tieT_sym ties x y, fun x => tieT_irr hg x⟩
    refine ⟨_, rfl, v, n, ties, rfl, hN, h40, hg, fun u H1 s1 hu => ?_⟩
    rcases hu with ⟨rfl, hc⟩ | ⟨r, R, rfl, lr, hR⟩
    case inr =>
      refine ⟨_, rfl, rfl, _, rfl, iteT ?_⟩
      refine ⟨_, rfl, by show 2 ≤ sizeLine; decide, fun s0 hs0 => ⟨by show 2 ≤ sizeLine; decide, fun t ht => ?_⟩⟩
      have x1 := same_laid (o := .tup [.str "ring", .ref r]) hs0
      have x2 := same_laid (o := .tup [.bl false, .ref s0]) ht
      have lR : R.length ≤ n := by
        have := sub_len R (List.range n) lr.nd fun x hx => List.mem_range.mpr (lr.lt x hx)
        rwa [List.length_range] at this
      refine q t _ (s1.trans (x1.trans x2)) ⟨false, s0, .tuple [.str "ring", rowD R], upd_same, .tup (x2 _ _ upd_same) (by simp) (.cons (.str _) (.cons (.tup (x2 _ _ (x1 _ _ hR)) (by rw [List.length_map]; omega) (tna_pts R)) .nil)), iff_of_false Bool.false_ne_true fun h => long_not S lr h.1, (fun e => nomatch e), fun _ => .inl ⟨_, rfl, longD_of lr S.sy⟩⟩
    refine ⟨_, rfl, rfl, _, rfl, iteF ?_⟩
    have hN1 := hN.keep (sKt s1)
    refine ⟨_, rfl, v, n, ties, rfl, hN1, h40, hg, S, fun u2 H2 s2 hu2 => ?_⟩
    have s02 := s1.trans s2
    have hN2 := hN1.keep (sKt s2)
    rcases hu2 with ⟨rfl, ha⟩ | ⟨t3, a, b, c, rfl, ht3, ab, bc, cn, o1, o2, o3⟩
    case inr =>
      refine ⟨_, rfl, rfl, _, rfl, iteT ?_⟩
      refine ⟨_, rfl, t3, _, rfl, SqT.of ht3, rfl, _, _, rfl, _, _, rfl, _, _, rfl, rfl, ?_⟩
      refine ⟨_, rfl, _, rfl, _, rfl, _, rfl, _, rfl, _, rfl, _, rfl, v, n, a, b, c, ties, rfl, hN2, h40, hg, by omega, by omega, cn, fun u3 H3 s3 h3 => ?_⟩
      obtain ⟨p1, W1, rfl, hp1, w1⟩ := off_told S h3 o1
      refine ⟨_, rfl, _, rfl, _, rfl, _, rfl, v, n, a, c, b, ties, rfl, hN2.keep (sKt s3), h40, hg, by omega, cn, by omega, fun u4 H4 s4 h4 => ?_⟩
      obtain ⟨p2, W2, rfl, hp2, w2⟩ := off_told S h4 o2
      refine ⟨_, rfl, _, rfl, _, rfl, _, rfl, v, n, b, c, a, ties, rfl, hN2.keep (sKt (s3.trans s4)), h40, hg, by omega, cn, by omega, fun u5 H5 s5 h5 => ?_⟩
      obtain ⟨p3, W3, rfl, hp3, w3⟩ := off_told S h5 o3
      refine ⟨by show 7 ≤ sizeLine; decide, fun s0 hs0 => ⟨by show 2 ≤ sizeLine; decide, fun t ht => ?_⟩⟩
      have x1 := same_laid (o := .tup [.str "three", pI a, pI b, pI c, .ref p1, .ref p2, .ref p3]) hs0
      have x2 := same_laid (o := .tup [.bl false, .ref s0]) ht
      have k := x1.trans x2
      have row : ∀ {p : Addr} {W : List Nat} {H' : Hp} {a b c : Nat}, H' p = some (.tup (W.map pI)) → WayR n (tieT ties) a b c W → TN 41 H' (.ref p) (rowD W) := fun {p W H' a b c} h w => .tup h (by rw [List.length_map]; have := way_len w; omega) (tna_pts W)
      refine q t _ (s02.trans (s3.trans (s4.trans (s5.trans k)))) ⟨false, s0, .tuple [.str "three", .int (a : Int), .int (b : Int), .int (c : Int), rowD W1, rowD W2, rowD W3], upd_same, .tup (x2 _ _ upd_same) (by simp) (.cons (.str _) (.cons (.int _) (.cons (.int _) (.cons (.int _) (.cons (row (k _ _ (s5 _ _ (s4 _ _ hp1))) w1) (.cons (row (k _ _ (s5 _ _ hp2)) w2) (.cons (row (k _ _ hp3) w3) .nil))))))), iff_of_false Bool.false_ne_true fun h => h.2 a b c o1 o2 o3, (fun e => nomatch e), fun _ => .inr ⟨a, b, c, W1, W2, W3, rfl, by omega, by omega, cn, by omega, by omega, by omega, w1, w2, w3⟩⟩
    refine ⟨_, rfl, rfl, _, rfl, iteF ?_⟩
    obtain ⟨t0, u0, rfl, h0, _⟩ := id hN2
    refine ⟨_, rfl, _, _, _, _, rfl, rfl, SqT.of h0, rfl, _, rfl, by omega, by omega, fun D hDn => ?_⟩
    have key : ∀ {H4 : Hp} {i : Nat} {rs : List Addr} {a : Addr}, H4 D = some (.lst (rs.map V.ref)) → rs.length = i → (∀ a ∈ rs, H4 a = some (.dK []) ∧ H2 a = none) → rs.Nodup → Same H2 H4 → H4 a = none →
        (upd (upd H4 a (.dK [])) D (.lst (rs.map V.ref ++ [.ref a]))) D = some (.lst ((rs ++ [a]).map V.ref)) ∧ (∀ b ∈ rs ++ [a], (upd (upd H4 a (.dK [])) D (.lst (rs.map V.ref ++ [.ref a]))) b = some (.dK []) ∧ H2 b = none) ∧ (rs ++ [a]).Nodup := fun {H4 i rs a} hd hl hr2 hnd s4 ha => by
      have haD : a ≠ D := fun e => by rw [e, hd] at ha; cases ha
      have hrD : ∀ b ∈ rs, b ≠ D := fun b hb e => by have := (hr2 b hb).1; rw [e, hd] at this; cases this
      refine ⟨by rw [upd_same, List.map_append]; rfl, fun b hb => ?_, List.nodup_append.mpr ⟨hnd, by simp, fun x hx y hy e => ?_⟩⟩
      · rcases List.mem_append.mp hb with hb | hb
        · rw [upd_ne (hrD b hb), upd_ne (fun e => by have := (hr2 b hb).1; rw [e, ha] at this; cases this)]
          exact hr2 b hb
        · rw [List.mem_singleton.mp hb, upd_ne haD, upd_same]
          exact ⟨rfl, gone s4 ha⟩
      · rw [List.mem_singleton.mp hy] at e
        have := (hr2 x hx).1
        rw [e, ha] at this
        cases this
    refine lc_range (lo := 0) (n := (n : Int).toNat) (fun i H4 => Same H2 H4 ∧ ∃ rs : List Addr, H4 D = some (.lst (rs.map V.ref)) ∧ rs.length = i ∧ (∀ a ∈ rs, H4 a = some (.dK []) ∧ H2 a = none) ∧ rs.Nodup) ⟨same_laid hDn, [], upd_same, rfl, (fun a h => nomatch h), List.nodup_nil⟩ ?_ ?_
    · rintro i H4 hi ⟨s4, rs, hd, hl, hr2, hnd⟩
      refine ⟨rfl, fun a ha => ?_⟩
      have haD : a ≠ D := fun e => by rw [e, hd] at ha; cases ha
      obtain ⟨k1, k2, k3⟩ := key hd hl hr2 hnd s4 ha
      exact ⟨rs.map V.ref, by rw [upd_ne haD.symm]; exact hd, by rw [List.length_map]; exact sizeBig (by omega), sPut (sNew s4 ha) hDn, rs ++ [a], k1, by rw [List.length_append, hl]; rfl, k2, k3⟩
    rintro H4 ⟨s4, rs, hd, hl, hr2, hnd⟩
    have D0 : DN H4 D rs n (fun _ => []) := ⟨hd, by omega, hnd, fun i a hia => (hr2 a (List.mem_of_getElem? hia)).1⟩
    have hnew : ∀ a ∈ rs, H2 a = none := fun a ha => (hr2 a ha).2
    clear key
    have hN4 := hN2.keep (sKt s4)
    -- the arrows of the opposite
    refine ⟨_, rfl, _, n, ties, rfl, hN4, h40, hg, fun v' H5 s5 hN5 => ⟨v', n, coT n ties, rfl, hN5, h40, coT_good n ties, fun t1 H6 s6 told => ?_⟩⟩
    obtain ⟨ans, sa, us, R, ht1, hsa, pR, lR, hans, hst, _⟩ := toldA_iff (coT_good n ties) told
    have yes : ans = true := hans.mpr (co_noturn hg S hc ha)
    obtain ⟨srt, st⟩ := hst yes
    have ndR : R.Nodup := srt.imp fun {a b} h e => by subst e; unfold ltP at h; omega
    have ltR : ∀ p ∈ R, p.1 < n ∧ p.2 < n := fun p hp => by
      obtain ⟨h1, h2, _⟩ := (coT_tie hg).mp (st.sub (x := p.1) (y := p.2) hp)
      exact ⟨h1, h2⟩
    refine ⟨_, _, _, _, rfl, rfl, SqT.of ht1, rfl, sa, rfl, ⟨_, SqT.of hsa⟩, ?_⟩
    have D6 := D0.same (s5.trans s6)
    have offd : ∀ {H8 : Hp} {Ls : Nat → List Nat} {a : Addr} {xs : List V}, DN H8 D rs n Ls → H8 a = some (.tup xs) → a ∉ rs := fun {H8 Ls a xs} d h hm => by
      obtain ⟨i, hi⟩ := List.getElem?_of_mem hm
      rw [d.at_ i a hi] at h
      cases h
    refine for_tup (K := K) (a := sa) (xs := us) (fun i σ H8 => ∃ (v7 v8 : Option V) (Ls : Nat → List Nat), σ = [some (.ref t0), some .non, some .non, none, none, none, some (.ref D), v7, v8, none, none, none, none, none] ∧ Out rs H6 H8 ∧ DN H8 D rs n Ls ∧ ∀ y, y < n → (Ls y).Nodup ∧ ∀ x, x ∈ Ls y ↔ (x, y) ∈ R.take i) ⟨none, none, _, rfl, Out.refl _ _, D6, fun y hy => ⟨List.nodup_nil, fun x => by simp⟩⟩ (fun i σ H8 _ ⟨_, _, _, _, o8, _⟩ => SqT.of (o8 _ _ hsa (offd D6 hsa))) ?_ ?_
    · rintro i xv σ H8 hx ⟨v7, v8, Ls, rfl, o8, D8, hLs⟩
      obtain ⟨p, hp, tp, rfl, htp⟩ := pAtL pR hx
      obtain ⟨p1, p2⟩ := ltR p (List.mem_of_getElem? hp)
      have htp8 := o8 _ _ htp (offd D6 htp)
      have etk : R.take (i + 1) = R.take i ++ [p] := by rw [List.take_add_one, hp]; rfl
      have hnm : p ∉ R.take i := fun hm => by
        obtain ⟨j, hj⟩ := List.getElem?_of_mem hm
        rw [List.getElem?_take] at hj
        split at hj
        · rename_i hji
          have := (List.getElem?_inj (List.getElem?_eq_some_iff.mp hj).1 ndR).mp (hj.trans hp.symm)
          omega
        · cases hj
      have nin : p.1 ∉ Ls p.2 := fun h => hnm (((hLs p.2 p2).2 p.1).mp h)
      have lL : (Ls p.2).length ≤ n := by
        have := sub_len (Ls p.2) (List.range n) (hLs p.2 p2).1 fun x hx => List.mem_range.mpr (ltR _ (List.mem_of_mem_take (((hLs p.2 p2).2 x).mp hx))).1
        rwa [List.length_range] at this
      refine ⟨tp, _, rfl, SqT.of htp8, rfl, _, _, rfl, _, _, rfl, rfl, ?_⟩
      obtain ⟨a2, ha2, hr2'⟩ := D8.row (i := p.2) p2
      obtain ⟨D9, o9⟩ := D8.put ha2 (Ls p.2 ++ [p.1])
      refine ⟨_, rfl, _, rfl, _, _, _, .ref a2, rfl, rfl, SqL.of D8.top, atI_nat (j := p.2) (by rw [List.getElem?_map, ha2]; rfl), _, rfl, a2, _, rfl, DPut.k (k := .inl (p.1 : Int)) hr2' (by rw [ldK_len]; exact sizeBig (by omega)), ?_⟩
      rw [ldK_put nin]
      refine ⟨_, _, _, rfl, o8.trans o9, D9, fun y hy => ?_⟩
      rw [etk]
      by_cases e : y = p.2
      · rw [if_pos e]
        refine ⟨List.nodup_append.mpr ⟨(hLs p.2 p2).1, by simp, fun x hx z hz e => nin (by rw [List.mem_singleton.mp hz] at e; rw [← e]; exact hx)⟩, fun x => ?_⟩
        rw [List.mem_append, List.mem_append, (hLs p.2 p2).2, List.mem_singleton, List.mem_singleton, e, Prod.ext_iff]
        simp
      · rw [if_neg e]
        refine ⟨(hLs y hy).1, fun x => ?_⟩
        rw [(hLs y hy).2, List.mem_append, List.mem_singleton, Prod.ext_iff]
        exact ⟨.inl, fun h => h.elim id fun h => absurd h.2 e⟩
    rintro σ H8 ⟨v7, v8, Ls, rfl, o8, D8, hLs⟩
    have lus := pR.length
    rw [show us.length = R.length by omega, List.take_length] at hLs
    have s28 : Same H2 H8 := Out.same ((s4.trans s5).trans s6) hnew o8
    have lenL : ∀ y, y < n → (Ls y).length ≤ n := fun y hy => by
      have := sub_len (Ls y) (List.range n) (hLs y hy).1 fun x hx => List.mem_range.mpr (ltR _ (((hLs y hy).2 x).mp hx)).1
      rwa [List.length_range] at this
    have inn : ∀ {H' : Hp} {y x : Nat} {a : Addr}, H' a = some (.dK (ldK (Ls y))) → (valV (ldK (Ls y)) (.inl (x : Int))).isSome = decide (x ∈ Ls y) := fun _ => ldK_has _ _
    have hl' : rs.length = n := by omega
    clear offd o8 D6 D0 hN4 hr2 hnd
    have h08 := s28 _ _ h0
    refine ⟨Nat.zero_le _, fun po hpo => ?_⟩
    have x9 := same_laid (o := .lst []) hpo
    have hpo9 : (upd H8 po (.lst [])) po = some (.lst []) := upd_same
    have hpoH := gone s28 hpo
    have D9 := D8.same x9
    have s29 := s28.trans x9
    generalize (upd H8 po (.lst [])) = H9 at x9 hpo9 D9 s29 ⊢
    refine ⟨_, rfl, _, _, _, _, rfl, rfl, SqT.of (s29 _ _ h0), rfl, _, rfl, by omega, by omega, ?_⟩
    have ends : ∀ (k j : Nat), j ≤ n → ∀ z : Int, z ∈ ((List.range j).filter fun z => !decide (k ∈ Ls z)).map (fun z => ((Ls z).length : Int)) ↔ ∃ y, y < j ∧ k ∉ Ls y ∧ z = ((Ls y).length : Int) := fun k j hj z => by
      rw [List.mem_map]
      constructor
      · rintro ⟨y, hy, rfl⟩
        obtain ⟨h1, h2⟩ := List.mem_filter.mp hy
        exact ⟨y, List.mem_range.mp h1, by simpa using h2, rfl⟩
      · rintro ⟨y, h1, h2, rfl⟩
        exact ⟨y, List.mem_filter.mpr ⟨List.mem_range.mpr h1, by simpa using h2⟩, rfl⟩
    refine for_range (lo := 0) (n := (n : Int).toNat) (fun i σ H10 => ∃ (v10 v11 : Option V) (ws : List V) (zs : List (Int × Int)), σ = [some (.ref t0), some .non, some .non, none, none, none, some (.ref D), v7, v8, some (.ref po), v10, v11, none, none] ∧ Same H8 H10 ∧ H10 po = some (.lst ws) ∧ Paired (PrZ H10) ws zs ∧ zs.length = i ∧ ∀ k p, zs[k]? = some p → p.1 = ((Ls k).length : Int) ∧ ∃ r : Nat, p.2 = (r : Int) ∧ (∀ z, z < n → k ∉ Ls z → (Ls z).length ≤ r) ∧ ∃ z, z < n ∧ k ∉ Ls z ∧ r = (Ls z).length) ⟨none, none, [], [], rfl, x9, hpo9, .nil, rfl, fun k p h => by simp at h⟩ ?_ ?_
    · rintro k σ H10 hk ⟨v10, v11, ws, zs, rfl, s10, hpo10, pr10, lz, hz⟩
      have hkn : k < n := by omega
      have e0 : ((0 : Int) + (k : Nat)) = ((k : Nat) : Int) := by omega
      rw [e0]
      have D10 := D8.same s10
      have nDp : D ≠ po := fun e => by rw [← e, D8.top] at hpo; cases hpo
      refine ⟨_, rfl, D, rfl, ⟨_, SqL.of D10.top⟩, fun D2 hD2 => ?_⟩
      refine turns_it (walk_list (K := K) (a := D) (xs := rs.map V.ref)) (fun j H11 => Same H10 H11 ∧ H11 D2 = some (.lst ((((List.range j).filter fun z => !decide (k ∈ Ls z)).map fun z => ((Ls z).length : Int)).map V.int))) ⟨same_laid hD2, upd_same⟩ (fun j H11 _ ⟨s11, _⟩ => SqL.of (s11 _ _ D10.top)) ?_ ?_
      · rintro j yv H11 H11' hj ⟨s11, hd11⟩ ⟨rfl, hy⟩
        rw [List.getElem?_map] at hy
        obtain ⟨a, ha, rfl⟩ := Option.map_eq_some_iff.mp hy
        have hjn : j < n := by
          have := (List.getElem?_eq_some_iff.mp ha).1
          have := D10.len
          omega
        have hra := s11 _ _ (D10.at_ j a ha)
        refine ⟨rfl, _, rfl, _, rfl, a, _, rfl, .inl ⟨_, .inl (k : Int), .inl hra, rfl, rfl⟩, _, rfl, ?_⟩
        rw [ldK_has]
        have er : (List.range (j + 1)).filter (fun z => !decide (k ∈ Ls z)) = (List.range j).filter (fun z => !decide (k ∈ Ls z)) ++ (if k ∈ Ls j then [] else [j]) := by
          rw [List.range_succ, List.filter_append, List.filter_cons]
          by_cases e : k ∈ Ls j
          · rw [if_pos e, decide_eq_true e]; rfl
          · rw [if_neg e, decide_eq_false e]; rfl
        refine ifN (fun c => ?_) (fun c => ?_)
        · have c := of_decide_eq_false c
          rw [if_neg c] at er
          refine ⟨_, rfl, a, _, rfl, hra, _, hd11, ?_, sPut s11 hD2, ?_⟩
          · rw [List.length_map, List.length_map]
            have := List.length_filter_le (fun z => !decide (k ∈ Ls z)) (List.range j)
            rw [List.length_range] at this
            exact sizeBig (by omega)
          · rw [upd_same, er, List.map_append, List.map_append, ldK_len]
            rfl
        · have c := of_decide_eq_true c
          rw [if_pos c, List.append_nil] at er
          refine ⟨s11, ?_⟩
          rw [er]
          exact hd11
      rintro H11 ⟨s11, hd11⟩
      rw [List.length_map, hl'] at hd11
      have hpo11 := s11 _ _ hpo10
      have D11 := D10.same s11
      obtain ⟨ak, hak, hrk⟩ := D11.row hkn
      refine ⟨_, rfl, .inl ⟨rfl, _, SqL.of hpo11⟩, _, rfl, _, rfl, _, _, _, .ref ak, rfl, rfl, SqL.of D11.top, atI_nat (j := k) (by rw [List.getElem?_map, hak]; rfl), ak, _, rfl, hrk, _, rfl, D2, _, rfl, SqL.of hd11, ?_, fun mx hmx hle => ?_⟩
      · have : (((Ls k).length : Nat) : Int) ∈ ((List.range n).filter fun z => !decide (k ∈ Ls z)).map (fun z => ((Ls z).length : Int)) := (ends k n (Nat.le_refl _) _).mpr ⟨k, hkn, fun h => by
          obtain ⟨_, _, h3, _⟩ := (coT_tie hg).mp (st.sub (((hLs k hkn).2 k).mp h))
          exact h3 rfl, rfl⟩
        exact List.length_pos_of_mem this
      obtain ⟨z0, z1, z2, z3⟩ := (ends k n (Nat.le_refl _) mx).mp hmx
      refine ⟨by show 2 ≤ sizeLine; decide, fun tp htp => ⟨po, _, _, rfl, rfl, same_laid htp _ _ hpo11, ?_, ?_⟩⟩
      · have := pr10.length
        exact sizeBig (by omega)
      have x12 := same_laid (o := .tup [.int ((ldK (Ls k)).length : Int), .int mx]) htp
      have kt : KeepT H10 (upd (upd H11 tp (.tup [.int ((ldK (Ls k)).length : Int), .int mx])) po (.lst (ws ++ [.ref tp]))) := ((sKt s11).trans (sKt x12)).trans (KeepT.lst (x12 _ _ hpo11))
      have ntp : tp ≠ po := fun e => by rw [e, hpo11] at htp; cases htp
      refine ⟨_, _, ws ++ [.ref tp], zs ++ [(((Ls k).length : Int), mx)], rfl, sPut (s10.trans (s11.trans x12)) hpo, upd_same, pApp (pMono persPrZ kt pr10) (.cons ⟨tp, rfl, ?_⟩ .nil), by rw [List.length_append, lz]; rfl, fun k' p hp => ?_⟩
      · rw [upd_ne ntp, upd_same, ldK_len]
      · by_cases e : k' < zs.length
        · rw [List.getElem?_append_left e] at hp
          exact hz k' p hp
        · have e2 : k' = zs.length := by
            have := (List.getElem?_eq_some_iff.mp hp).1
            rw [List.length_append, List.length_singleton] at this
            omega
          rw [e2, List.getElem?_append_right (Nat.le_refl _), Nat.sub_self] at hp
          have := Option.some.inj hp
          subst this
          rw [e2, lz]
          refine ⟨rfl, (Ls z0).length, z3, fun z hzn nz => ?_, z0, z1, z2, rfl⟩
          have := hle _ ((ends k n (Nat.le_refl _) _).mpr ⟨z, hzn, nz, rfl⟩)
          omega
    · rintro σ H10 ⟨v10, v11, ws, zs, rfl, s10, hpo10, pr10, lz, hz⟩
      have lz : zs.length = n := by omega
      have lws := pr10.length
      refine ⟨_, rfl, po, _, rfl, .inl ⟨SqL.of hpo10, fun tp htp => ⟨by show 2 ≤ sizeLine; decide, fun t ht => ?_⟩⟩⟩
      have x11 := same_laid (o := .tup ws) htp
      have x12 := same_laid (o := .tup [.bl true, .ref tp]) ht
      obtain ⟨r, hr⟩ : ∃ r : Nat → Nat, ∀ k p, zs[k]? = some p → p = (((Ls k).length : Int), ((r k : Nat) : Int)) ∧ (∀ z, z < n → k ∉ Ls z → (Ls z).length ≤ r k) ∧ ∃ z, z < n ∧ k ∉ Ls z ∧ r k = (Ls z).length := by
        refine ⟨fun k => ((zs[k]?).getD (0, 0)).2.toNat, fun k p hp => ?_⟩
        obtain ⟨h1, r, h2, h3, h4⟩ := hz k p hp
        have e : ((fun k => ((zs[k]?).getD (0, 0)).2.toNat) k) = r := by
          show ((zs[k]?).getD (0, 0)).2.toNat = r
          rw [hp]
          show p.2.toNat = r
          rw [h2, Int.toNat_natCast]
        rw [e]
        exact ⟨Prod.ext h1 h2, h3, h4⟩
      have so := stretch_ok hg S (no4_of S hc) st hLs (r := r) fun a ha => by
        have := hr a _ (List.getElem?_eq_getElem (show a < zs.length by omega))
        exact this.2
      refine q t _ (s02.trans (s28.trans (s10.trans (x11.trans x12)))) ⟨true, tp, .tuple (zs.map pairZ), upd_same, .tup (x12 _ _ upd_same) (by omega) (tna_prZ (by decide) (pMono persPrZ (sKt (x11.trans x12)) pr10)), iff_of_true rfl ⟨hc, ha⟩, fun _ => ⟨zs, rfl, lz, fun p hp => ?_, fun a b p p' lt h1 h2 => ?_⟩, fun e => nomatch e⟩
      · obtain ⟨k, hk⟩ := List.getElem?_of_mem hp
        obtain ⟨e, _⟩ := hr k p hk
        have := so.1 k (by have := (List.getElem?_eq_some_iff.mp hk).1; omega)
        rw [e]
        show ((Ls k).length : Int) ≤ (r k : Int)
        omega
      · obtain ⟨e1, _⟩ := hr a p h1
        obtain ⟨e2, _⟩ := hr b p' h2
        have l1 := (List.getElem?_eq_some_iff.mp h1).1
        have l2 := (List.getElem?_eq_some_iff.mp h2).1
        rw [so.2 a b (by omega) (by omega) (by omega), e1, e2]
        show _ ↔ ((Ls a).length : Int) ≤ (r b : Int) ∧ ((Ls b).length : Int) ≤ (r a : Int)
        omega
end
end Ns
/-! Own layer: stories and places of equal stretches as data. -/
namespace Ns
open PySem PySem.Spec PyProof.Rows L2
def intsD (n : Nat) (X : Nat → Int) : PyData := .tuple ((List.range n).map fun i => PyData.int (X i))
def EqD (n : Nat) (T : Tm) (d : PyData) : Prop := ∃ (len : Int) (X : Nat → Int), d = .tuple [.int len, intsD n X] ∧ 1 ≤ len ∧ ∀ a b, a < b → b < n → (T a b = true ↔ ((X a - X b).natAbs : Int) ≤ len)
def ClawP (n : Nat) (T : Tm) (c x y z : Nat) : Prop := c < n ∧ x < n ∧ y < n ∧ z < n ∧ x ≠ y ∧ x ≠ z ∧ y ≠ z ∧ T c x = true ∧ T c y = true ∧ T c z = true ∧ T x y = false ∧ T x z = false ∧ T y z = false
def ClawD (n : Nat) (T : Tm) (d : PyData) : Prop := BentD n T d ∨ ∃ c x y z : Nat, d = .tuple [.str "claw", .int (c : Int), .int (x : Int), .int (y : Int), .int (z : Int)] ∧ ClawP n T c x y z
theorem eq_not_clawed {n : Nat} {T : Tm} {d : PyData} (h : EqD n T d) : ¬ ClawD n T d := by
  obtain ⟨len, X, rfl, _⟩ := h
  rintro ((⟨e, h, _⟩ | ⟨a, b, c, W1, W2, W3, h, _⟩) | ⟨c, x, y, z, h, _⟩)
  · have := (List.cons.inj (PyData.tuple.inj h)).1
    cases this
  · have := (List.cons.inj (PyData.tuple.inj h)).1
    cases this
  · have := (List.cons.inj (PyData.tuple.inj h)).1
    cases this
theorem ClawP.not {n : Nat} {T : Tm} {c x y z : Nat} (h : ClawP n T c x y z) : ¬ NoClaw n T := fun k => by
  obtain ⟨h1, h2, h3, h4, h5, h6, h7, h8, h9, h10, h11, h12, h13⟩ := h
  exact k c x y z h1 h2 h3 h4 h8 h9 h10 h5 h6 h7 h11 h12 h13
theorem co_to {n : Nat} {ties : List (Nat × Nat)} (hg : Good n ties) (S : SyT (tieT ties)) (c : CondC (tieT ties) (· < n)) (a : NoAT (tieT ties) (· < n)) : ∃ F, TO (tieE (coT n ties)) F := by
  have e : (· ∈ List.range n) = (· < n) := funext fun u => propext List.mem_range
  have := lb S (List.range n)
  rw [e] at this
  obtain ⟨lt, o⟩ := this (no4_of S c) (no5_of S c) a
  refine ⟨lt, ⟨fun {x y} h => ?_, fun {x y} h => ?_, fun h => o.asy h, fun h g => o.tr h g⟩⟩
  · obtain ⟨h1, h2, h3, h4⟩ := o.of h
    exact (coT_tie hg).mpr ⟨h1, h2, h3, h4⟩
  · obtain ⟨h1, h2, h3, h4⟩ := (coT_tie hg).mp h
    exact o.tot h1 h2 h3 h4
end Ns
/-! Own layer: what is told of equal stretches. -/
namespace Ns
open PySem PySem.Spec PyProof.Rows L2
local macro_rules | `(tactic| walk_at "look") => `(tactic| first | assumption | exact upd_same | (refine (upd_ne (by first | assumption | exact Ne.symm (by assumption))).trans ?_; walk_at "look"))
local macro_rules | `(tactic| walk_at "cond") => `(tactic| first | assumption | omega | (dsimp only; omega) | exact ⟨by omega, by omega⟩ | decide | exact ⟨by decide, by decide, by decide⟩ | exact .inr ⟨by decide, by decide⟩ | exact .inl ⟨by decide, by decide⟩ | exact .inr ⟨by omega, by omega⟩ | exact .inl ⟨by omega, by omega⟩)
local macro_rules | `(tactic| walk_at "rd1") => `(tactic| first
  | refine ⟨_, rfl, ?_⟩
  | refine ⟨_, _, rfl, rfl, ?_⟩
  | refine ⟨rfl, ?_⟩
  | refine ⟨_, _, rfl, rfl, (by walk_at "cond"), ?_⟩
  | refine ⟨_, _, _, _, rfl, rfl, SqL.of (by walk_at "look"), rfl, ?_⟩
  | refine ⟨_, _, _, _, rfl, rfl, SqT.of (by walk_at "look"), rfl, ?_⟩
  | refine ⟨_, _, _, _, rfl, rfl, (by walk_at "look"), rfl, ?_⟩
  | refine .inl ⟨_, rfl, ?_⟩
  | refine ⟨.inl ⟨rfl, _, SqL.of (by walk_at "look")⟩, ?_⟩
  | refine ⟨_, _, rfl, ⟨by omega, by omega, by omega, by omega⟩, ?_⟩
  | refine ⟨_, rfl, (by omega), (by omega), ?_⟩
  | refine And.intro (by walk_at "cond") ?_)
local macro_rules | `(tactic| walk_at "rd") => `(tactic| repeat (walk_at "rd1"))
abbrev N_equal_of : List Str := ["net", "is_of", "paper", "claw", "near", "order", "_", "length", "story", "at", "place"]
theorem sc_equal_of : FnScope N_equal_of ["net"] (defScope s_equal_of) := ⟨rfl, rfl, rfl, by decide +kernel, rfl, by decide +kernel, by decide +kernel⟩
section
variable {P : Program} {w : World} {K : PySem.W.Frag} {mg : Str → Option Value} {base : Heap}
/-- the third row after that many sweeps -/
def Swp (n : Nat) (T : Tm) : Nat → List Nat → Prop
  | 0, _ => True
  | k + 1, O' => ∃ O : List Nat, Swp n T k O ∧ LexP n T (fun x => O'.idxOf x) (fun x => O.idxOf x)
theorem row_of_sweeps {n : Nat} {ties : List (Nat × Nat)} (hg : Good n ties) (S : SyT (tieT ties)) (c : CondC (tieT ties) (· < n)) (a : NoAT (tieT ties) (· < n)) (nc : NoClaw n (tieT ties)) {O : List Nat} (pO : O.Perm (List.range n)) (h : Swp n (tieT ties) 3 O) : RowS n (relO (tieT ties) O) := by
  obtain ⟨O2, ⟨O1, ⟨O0, _, X1⟩, X2⟩, X3⟩ := h
  obtain ⟨F, st⟩ := co_to hg S c a
  obtain ⟨f, f0⟩ := roberts hg S (no4_of S c) nc st
  refine ⟨fun i j => S.sy _ _, fun i j k ij jk kn t => ?_⟩
  have lO : O.length = n := by rw [pO.length_eq, List.length_range]
  have nd : O.Nodup := pO.nodup_iff.mpr List.nodup_range
  have at_ : ∀ i, i < n → O.getD i 0 < n ∧ O.idxOf (O.getD i 0) = i := fun i hi => by
    have hi2 : i < O.length := by omega
    rw [List.getD_eq_getElem?_getD, List.getElem?_eq_getElem hi2]
    exact ⟨List.mem_range.mp (pO.mem_iff.mp (List.getElem_mem hi2)), nd.idxOf_getElem i hi2⟩
  obtain ⟨a1, a2⟩ := at_ i (by omega)
  obtain ⟨b1, b2⟩ := at_ j (by omega)
  obtain ⟨c1, c2⟩ := at_ k kn
  exact sweeps S f0 X1 X2 X3 a1 b1 c1 (by rw [a2, b2]; exact ij) (by rw [b2, c2]; exact jk) t
theorem tna_intsX {N : Nat} {H : Hp} (X : Nat → Int) : ∀ l : List Nat, TNA N H (l.map fun x => V.int (X x)) (l.map fun x => PyData.int (X x))
  | [] => .nil
  | _ :: r => .cons (.int _) (tna_intsX X r)
/-- what is told of equal stretches -/
def ToldQ (H : Hp) (n : Nat) (ties : List (Nat × Nat)) (t : Addr) : Prop := ∃ (ans : Bool) (s : Addr) (d : PyData), H t = some (.tup [.bl ans, .ref s]) ∧ TN 41 H (.ref s) d ∧ (ans = true ↔ YesS n (tieT ties) ∧ NoClaw n (tieT ties)) ∧ (ans = true → EqD n (tieT ties) d) ∧ (ans = false → ClawD n (tieT ties) d)
def sp_equal_of : Sp := fun vs H Q _ => ∃ (v : V) (n : Nat) (ties : List (Nat × Nat)), vs = [v] ∧ Net H v n ties ∧ n ≤ 40 ∧ Good n ties ∧ ∀ (t : Addr) (H' : Hp), Same H H' → ToldQ H' n ties t → Q (.ref t) H'
theorem cal_equal_of (A : At K mg "equal_of" s_equal_of) (B : Bi mg) (c_stretches_of : Cal P w K mg base 7 "stretches_of" sp_stretches_of) (c_claw : Cal P w K mg base 2 "_claw" sp_claw) (c_neighbours_arrows : Cal P w K mg base 1 "neighbours_arrows" sp_nearA) (c_sweep : Cal P w K mg base 1 "_sweep" sp_sweep) (c_places : Cal P w K mg base 1 "_places" sp_places) : Cal P w K mg base 8 "equal_of" sp_equal_of := by
  have nd := sc_equal_of.nd
  refine A.cal sc_equal_of (fun _ _ _ _ _ _ us hl => match us, hl with | [_], _ => rfl) ?_ fun f cdv A' outer s H vs Q E hr h => ⟨_, (pss_cons (ps_asg (pe_cal c_stretches_of hr (by first | decide | omega) (by rfl) passE (pa_cons (pv 0) pa_nil)) (pg_tupK (K := K) (n := 2) rfl rfl (pgs_cons (pg_name (i := 1) nd rfl (.inl rfl)) (pgs_cons (pg_name (i := 2) nd rfl (.inl rfl)) pgs_nil))))
  (pss_cons (ps_if (pt_not (pt_val (pv 1))) (pss_one (ps_ret (pe_tup (pa_cons pe_bl (pa_cons (pv 2) pa_nil))))) pss_nil)
  (pss_cons (ps_set (i := 3) nd rfl (.inl rfl) (pe_cal c_claw hr (by first | decide | omega) (by rfl) passE (pa_cons (pv 0) pa_nil)))
  (pss_cons (ps_if (pt_cmpR op_notN (pv 3) pe_non (nomark _)) (pss_one (ps_ret (pe_tup (pa_cons pe_bl (pa_cons (pv 3) pa_nil))))) pss_nil)
  (pss_cons (ps_set (i := 4) nd rfl (.inl rfl) (pe_cal c_neighbours_arrows hr (by first | decide | omega) (by rfl) passE (pa_cons (pv 0) pa_nil)))
  (pss_cons (ps_set (i := 5) nd rfl (.inl rfl) (pe_listRg rfl (by rfl) B.list (prg_1 (by rfl) B.range (pe_ix (ix_tupK (K := K) rfl) (pv 0) pe_int (fun _ _ => rfl)))))
  (pss_cons (ps_for passOwn rfl (pi_range1 (by rfl) B.range (pa_cons pe_int pa_nil)) (pg_name (i := 6) nd rfl (.inl rfl)) (pss_one (ps_set (i := 5) nd rfl (.inl rfl) (pe_cal c_sweep hr (by first | decide | omega) (by rfl) passE (pa_cons (pv 4) (pa_cons (pv 5) pa_nil))))))
  (pss_cons (ps_set (i := 7) nd rfl (.inl rfl) (pe_callB (call_max2 rfl) (by rfl) B.max (by decide +kernel) (pa_cons pe_int (pa_cons (pe_ix (ix_tupK (K := K) rfl) (pv 0) pe_int (fun _ _ => rfl)) pa_nil))))
  (pss_cons (ps_set (i := 8) nd rfl (.inl rfl) (pe_op op_rep (pe_lst (pa_cons pe_int pa_nil)) (pe_ix (ix_tupK (K := K) rfl) (pv 0) pe_int (fun _ _ => rfl))))
  (pss_cons (ps_for passOwn rfl (pi_enumK (K := K) rfl (by rfl) B.enumerate (pa_cons (pe_cal c_places hr (by first | decide | omega) (by rfl) passE (pa_cons (pv 4) (pa_cons (pv 5) (pa_cons (pv 7) pa_nil)))) pa_nil)) (pg_tupK (K := K) (n := 2) rfl rfl (pgs_cons (pg_name (i := 9) nd rfl (.inl rfl)) (pgs_cons (pg_name (i := 10) nd rfl (.inl rfl)) pgs_nil))) (pss_one (ps_asg (pv 10) (pg_sub (pv 8) (pe_ix (ix_listK (K := K) rfl) (pv 5) (pv 9) (fun _ _ => rfl)) set_list))))
  (pss_one (ps_ret (pe_tup (pa_cons pe_bl (pa_cons (pe_tup (pa_cons (pv 7) (pa_cons (pe_callTy (call_tuple_ofK (K := K) rfl) (by rfl) B.tuple (by decide +kernel) (pa_cons (pv 8) pa_nil)) pa_nil))) pa_nil))))))))))))))), ?_⟩
  · rintro vs H Q E ⟨v, n, ties, rfl, _⟩
    rfl
  · obtain ⟨v, n, ties, rfl, hN, h40, hg, q⟩ := h
    have S : SyT (tieT ties) := ⟨fun x y => tieT_sym ties x y, fun x => tieT_irr hg x⟩
    refine ⟨_, rfl, v, n, ties, rfl, hN, h40, hg, fun t H1 s1 told => ?_⟩
    obtain ⟨ans, sp, d, ht, tn, hk, st, pl⟩ := told
    refine ⟨t, _, rfl, SqT.of ht, rfl, _, _, rfl, _, _, rfl, rfl, ?_⟩
    refine ⟨_, rfl, _, rfl, ?_⟩
    cases ans with
    | false =>
      refine iteT ?_
      refine ⟨_, rfl, by show 2 ≤ sizeLine; decide, fun t2 ht2 => ?_⟩
      have x1 := same_laid (o := .tup [.bl false, .ref sp]) ht2
      exact q t2 _ (s1.trans x1) ⟨false, sp, d, upd_same, tn.keep (sKt x1) (Nat.le_refl _), iff_of_false Bool.false_ne_true fun h => Bool.false_ne_true (hk.mpr h.1), (fun e => nomatch e), fun _ => .inl (pl rfl)⟩
    | true =>
    have yes := hk.mp rfl
    clear hk st pl
    refine iteF ?_
    have hN1 := hN.keep (sKt s1)
    refine ⟨_, rfl, v, n, ties, rfl, hN1, h40, hg, S, fun u H2 s2 hu => ?_⟩
    have s02 := s1.trans s2
    have hN2 := hN1.keep (sKt s2)
    rcases hu with ⟨rfl, nc⟩ | ⟨t3, c, x, y, z, rfl, ht3, cl⟩
    case inr =>
      refine ⟨_, rfl, rfl, _, rfl, iteT ?_⟩
      refine ⟨_, rfl, by show 2 ≤ sizeLine; decide, fun t2 ht2 => ?_⟩
      have x1 := same_laid (o := .tup [.bl false, .ref t3]) ht2
      have cp : ClawP n (tieT ties) c x y z := cl
      exact q t2 _ (s02.trans x1) ⟨false, t3, _, upd_same, .tup (x1 _ _ ht3) (by simp) (.cons (.str _) (.cons (.int _) (.cons (.int _) (.cons (.int _) (.cons (.int _) .nil))))), iff_of_false Bool.false_ne_true fun h => cp.not h.2, (fun e => nomatch e), fun _ => .inr ⟨c, x, y, z, rfl, cp⟩⟩
    refine ⟨_, rfl, rfl, _, rfl, iteF ?_⟩
    refine ⟨_, rfl, v, n, ties, rfl, hN2, h40, hg, fun m rows Ls H3 s3 _ _ hD hT => ?_⟩
    have s03 := s02.trans s3
    obtain ⟨t0, u0, rfl, h0, _⟩ := id (hN2.keep (sKt s3))
    refine ⟨_, rfl, _, _, _, _, rfl, rfl, SqT.of h0, rfl, _, rfl, ?_⟩
    refine ⟨⟨by omega, by omega⟩, fun o1 ho1 => ?_⟩
    rw [rgV_C]
    have x4 := same_laid (o := .lst ((List.range n).map pI)) ho1
    have s04 := s03.trans x4
    have ho4 : (upd H3 o1 (.lst ((List.range n).map pI))) o1 = some (.lst ((List.range n).map pI)) := upd_same
    have D4 := hD.same x4
    have h04 := x4 _ _ h0
    generalize (upd H3 o1 (.lst ((List.range n).map pI))) = H4 at s04 ho4 D4 h04 ⊢
    clear hD h0 x4
    refine ⟨_, rfl, by omega, by omega, ?_⟩
    refine for_range (lo := 0) (n := (3 : Int).toNat) (fun i σ H5 => ∃ (o : Addr) (O : List Nat) (v6 : Option V), σ = [some (.ref t0), some (.bl true), some (.ref sp), some .non, some (.ref m), some (.ref o), v6, none, none, none, none] ∧ Same H4 H5 ∧ H5 o = some (.lst (O.map pI)) ∧ O.Perm (List.range n) ∧ Swp n (tieT ties) i O) ⟨o1, List.range n, none, rfl, Same.refl _, ho4, List.Perm.refl _, trivial⟩ ?_ ?_
    · rintro i σ H5 hi ⟨o, O, v6, rfl, s5, ho5, pO, sw⟩
      refine ⟨_, rfl, _, rfl, m, o, rows, n, Ls, ties, O, rfl, D4.same s5, hT, S, h40, ho5, pO, fun r O' H6 s6 _ hr6 pO' X => ?_⟩
      exact ⟨r, O', _, rfl, s5.trans s6, hr6, pO', O, sw, X⟩
    rintro σ H5 ⟨o, O, v6, rfl, s5, ho5, pO, sw⟩
    have hR := row_of_sweeps hg S yes.1 yes.2 nc pO sw
    have D5 := D4.same s5
    have h05 := s5 _ _ h04
    refine ⟨_, rfl, _, _, _, _, rfl, rfl, SqT.of h05, rfl, _, _, rfl, ?_⟩
    obtain ⟨L, eL⟩ : ∃ L : Int, L = if (n : Int) > 1 then (n : Int) else 1 := ⟨_, rfl⟩
    rw [← eL]
    have L1 : 1 ≤ L := by rw [eL]; split <;> omega
    have Ln : (n : Int) ≤ L := by rw [eL]; split <;> omega
    refine ⟨by show 1 ≤ sizeLine; decide, fun p0 hp0 => ?_⟩
    have x6 := same_laid (o := .lst [V.int 0]) hp0
    refine ⟨_, rfl, _, _, _, _, rfl, rfl, SqT.of (x6 _ _ h05), rfl, ?_⟩
    refine ⟨p0, n, _, rfl, rfl, upd_same, by omega, by omega, by show 1 * (n : Int).toNat ≤ sizeLine; exact Nat.le_of_lt (sizeBig (by omega)), fun st hst0 => ?_⟩
    have x7 := x6.trans (same_laid (o := .lst (List.replicate ((n : Int).toNat) [V.int 0]).flatten) hst0)
    have stH5 : H5 st = none := gone x6 hst0
    have hst7 : (upd (upd H5 p0 (.lst [V.int 0])) st (.lst (List.replicate ((n : Int).toNat) [V.int 0]).flatten)) st = some (.lst (rowF n fun _ => 0)) := by rw [upd_same, Int.toNat_natCast, rowF_rep0]
    generalize (upd (upd H5 p0 (.lst [V.int 0])) st (.lst (List.replicate ((n : Int).toNat) [V.int 0]).flatten)) = H7 at x7 hst7 ⊢
    refine ⟨_, rfl, _, rfl, _, rfl, m, o, rows, n, Ls, ties, O, L, rfl, D5.same x7, hT, S, h40, x7 _ _ ho5, pO, Ln, L1, hR, fun r ps H8 s8 hr7 hr8 law => ?_⟩
    have hst8 := s8 _ _ hst7
    have rst : r ≠ st := fun e => by rw [e, hst7] at hr7; cases hr7
    have s58 := x7.trans s8
    have lO : O.length = n := by rw [pO.length_eq, List.length_range]
    have ndO : O.Nodup := pO.nodup_iff.mpr List.nodup_range
    have oLt : ∀ {i x}, O[i]? = some x → x < n := fun {i x} h => List.mem_range.mp (pO.mem_iff.mp (List.mem_of_getElem? h))
    refine ⟨_, _, rfl, SqL.of hr8, ?_⟩
    refine for_it (walk_enum (K := K) (a := r) (xs := rowF n ps)) (fun i σ H9 => ∃ (X : Nat → Int) (v9 v10 : Option V), σ = [some (.ref t0), some (.bl true), some (.ref sp), some .non, some (.ref m), some (.ref o), v6, some (.int L), some (.ref st), v9, v10] ∧ Same H5 H9 ∧ H9 r = some (.lst (rowF n ps)) ∧ H9 st = some (.lst (rowF n X)) ∧ ∀ k x, k < i → O[k]? = some x → X x = ps k) ⟨fun _ => 0, none, none, rfl, s58, hr8, hst8, fun k x h => absurd h (by omega)⟩ (fun i σ H9 _ ⟨_, _, _, _, _, h, _⟩ => SqL.of h) ?_ ?_
    · rintro i xv σ H9o H9 hi ⟨X, v9, v10, rfl, s9, hr9, hst9, hX⟩ ⟨tt, e1, e2, rfl, nt, rfl, h3, h4⟩
      rw [rowF_len] at hi
      have e3 : V.int (i : Nat) = e1 := Option.some.inj h3
      subst e3
      dsimp only at h4
      rw [rowF_at hi] at h4
      have e4 : V.int (ps i) = e2 := Option.some.inj h4
      subst e4
      have x10 := same_laid (o := .tup [.int (i : Nat), .int (ps i)]) nt
      have s10 := s9.trans x10
      have hr10 := x10 _ _ hr9
      have hst10 := x10 _ _ hst9
      have htt : (upd H9o tt (.tup [.int (i : Nat), .int (ps i)])) tt = some (.tup [.int (i : Nat), .int (ps i)]) := upd_same
      generalize (upd H9o tt (.tup [.int (i : Nat), .int (ps i)])) = H10 at s10 hr10 hst10 htt ⊢
      refine ⟨tt, _, rfl, SqT.of htt, rfl, _, _, rfl, _, _, rfl, rfl, ?_⟩
      have hi2 : i < O.length := by omega
      obtain ⟨x, hx⟩ : ∃ x, O[i]? = some x := ⟨_, List.getElem?_eq_getElem hi2⟩
      have xn := oLt hx
      refine ⟨_, rfl, _, rfl, _, rfl, _, rfl, o, _, _, pI x, rfl, rfl, SqL.of (s10 _ _ ho5), atI_nat (j := i) (by rw [List.getElem?_map, hx]; rfl), st, _, _, x, rfl, rfl, hst10, (by rw [rowF_len]; exact ixN_of xn), ?_⟩
      rw [rowF_set]
      refine ⟨putF X x (ps i), _, _, rfl, sPut s10 stH5, by rw [upd_ne rst]; exact hr10, upd_same, fun k y hk hy => ?_⟩
      unfold putF
      by_cases e : k = i
      · rw [e, hx] at hy
        rw [if_pos (Option.some.inj hy).symm, e]
      · rw [if_neg fun e2 => e ?_]
        · exact hX k y (by omega) hy
        · rw [e2] at hy
          exact (List.getElem?_inj (List.getElem?_eq_some_iff.mp hy).1 ndO).mp (hy.trans hx.symm)
    rintro σ H9 ⟨X, v9, v10, rfl, s9, hr9, hst9, hX⟩
    rw [rowF_len] at hX
    refine ⟨_, rfl, _, rfl, _, _, rfl, .inl ⟨SqL.of hst9, fun tu htu => ?_⟩⟩
    have x10 := same_laid (o := .tup (rowF n X)) htu
    have htu10 : (upd H9 tu (.tup (rowF n X))) tu = some (.tup (rowF n X)) := upd_same
    generalize (upd H9 tu (.tup (rowF n X))) = H10 at x10 htu10 ⊢
    refine ⟨by show 2 ≤ sizeLine; decide, fun s0 hs0 => ⟨by show 2 ≤ sizeLine; decide, fun t1 ht1 => ?_⟩⟩
    have x11 := same_laid (o := .tup [.int L, .ref tu]) hs0
    have x12 := same_laid (o := .tup [.bl true, .ref s0]) ht1
    refine q t1 _ (s04.trans (s5.trans (s9.trans (x10.trans (x11.trans x12))))) ⟨true, s0, .tuple [.int L, intsD n X], upd_same, .tup (x12 _ _ upd_same) (by simp) (.cons (.int _) (.cons (.tup (x12 _ _ (x11 _ _ htu10)) (by rw [rowF_len]; omega) (tna_intsX _ _)) .nil)), iff_of_true rfl ⟨yes, nc⟩, fun _ => ⟨L, X, rfl, L1, fun a b ab bn => ?_⟩, fun e => nomatch e⟩
    have at_ : ∀ x, x < n → ∃ i, O[i]? = some x ∧ i < n := fun x hx => by
      obtain ⟨i, hi⟩ := List.getElem?_of_mem (pO.mem_iff.mpr (List.mem_range.mpr hx))
      exact ⟨i, hi, by have := (List.getElem?_eq_some_iff.mp hi).1; omega⟩
    obtain ⟨i, hi, iN⟩ := at_ a (by omega)
    obtain ⟨j, hj, jN⟩ := at_ b bn
    have rel : ∀ {i j x y}, O[i]? = some x → O[j]? = some y → relO (tieT ties) O i j = tieT ties x y := fun {i j x y} h1 h2 => by
      unfold relO
      rw [List.getD_eq_getElem?_getD, List.getD_eq_getElem?_getD, h1, h2]
      rfl
    rw [hX i a iN hi, hX j b jN hj]
    rcases Nat.lt_trichotomy i j with c | c | c
    · obtain ⟨k1, k2⟩ := law i j c jN
      rw [← rel hi hj, k1]
      omega
    · rw [c, hj] at hi
      have := Option.some.inj hi
      omega
    · obtain ⟨k1, k2⟩ := law j i c iN
      rw [S.sy, ← rel hj hi, k1]
      omega
end
end Ns
/-! Own layer: the judge's looks at equal stretches, of any data. -/
namespace Ns
open PySem PySem.Spec PyProof.Rows L2
local macro_rules | `(tactic| walk_at "look") => `(tactic| first | assumption | exact upd_same | (refine (upd_ne (by first | assumption | exact Ne.symm (by assumption))).trans ?_; walk_at "look"))
local macro_rules | `(tactic| walk_at "cond") => `(tactic| first | assumption | omega | (dsimp only; omega) | exact ⟨by omega, by omega⟩ | decide | exact ⟨by decide, by decide, by decide⟩ | exact .inr ⟨by decide, by decide⟩ | exact .inl ⟨by decide, by decide⟩ | exact .inr ⟨by omega, by omega⟩ | exact .inl ⟨by omega, by omega⟩)
local macro_rules | `(tactic| walk_at "rd1") => `(tactic| first
  | refine ⟨_, rfl, ?_⟩
  | refine ⟨_, _, rfl, rfl, ?_⟩
  | refine ⟨rfl, ?_⟩
  | refine ⟨_, _, rfl, rfl, (by walk_at "cond"), ?_⟩
  | refine ⟨_, _, _, _, rfl, rfl, SqL.of (by walk_at "look"), rfl, ?_⟩
  | refine ⟨_, _, _, _, rfl, rfl, SqT.of (by walk_at "look"), rfl, ?_⟩
  | refine ⟨_, _, _, _, rfl, rfl, (by walk_at "look"), rfl, ?_⟩
  | refine .inl ⟨_, rfl, ?_⟩
  | refine ⟨.inl ⟨rfl, _, SqL.of (by walk_at "look")⟩, ?_⟩
  | refine ⟨_, _, rfl, ⟨by omega, by omega, by omega, by omega⟩, ?_⟩
  | refine ⟨_, rfl, (by omega), (by omega), ?_⟩
  | refine And.intro (by walk_at "cond") ?_)
local macro_rules | `(tactic| walk_at "rd") => `(tactic| repeat (walk_at "rd1"))
abbrev N_story_equal : List Str := ["net", "tied", "x", "a", "b"]
theorem sc_story_equal : FnScope N_story_equal ["net", "tied", "x"] (defScope s_story_equal) := ⟨rfl, rfl, rfl, by decide +kernel, rfl, by decide +kernel, by decide +kernel⟩
section
variable {P : Program} {w : World} {K : PySem.W.Frag} {mg : Str → Option Value} {base : Heap}
theorem areNums_intsD {n : Nat} {X : Nat → Int} : areNumsD (intsD n X) n = true := by
  unfold areNumsD intsD
  dsimp only
  rw [List.length_map, List.length_range, decide_eq_true rfl, Bool.true_and, numsOf_isSome, List.all_map, List.all_eq_true]
  exact fun _ _ => rfl
theorem intsD_yes {n : Nat} {d : PyData} (c : areNumsD d n = true) : ∃ X : Nat → Int, d = intsD n X := by
  cases d with
  | tuple ds =>
    unfold areNumsD at c
    dsimp only at c
    obtain ⟨c1, c2⟩ := Bool.and_eq_true_iff.mp c
    obtain ⟨xs, hx⟩ := Option.isSome_iff_exists.mp c2
    have e := numsOf_some hx
    subst e
    have c1 := of_decide_eq_true c1
    rw [List.length_map] at c1
    refine ⟨fun i => xs.getD i 0, ?_⟩
    unfold intsD
    congr 1
    apply List.ext_getElem
    · simp; omega
    · intro i h1 h2
      have : i < xs.length := by rw [List.length_map] at h1; exact h1
      simp [List.getD_eq_getElem?_getD, List.getElem?_eq_getElem this]
  | _ => cases c
theorem eqD_iff {n : Nat} {T : Tm} {z : Int} {X : Nat → Int} (h1 : 1 ≤ z) : EqD n T (.tuple [.int z, intsD n X]) ↔ ∀ a b, a < b → b < n → (T a b = true ↔ ((X a - X b).natAbs : Int) ≤ z) := by
  constructor
  · rintro ⟨len, Y, e, _, h⟩ a b ab bn
    have e2 := PyData.tuple.inj e
    have ez : z = len := PyData.int.inj (List.cons.inj e2).1
    have er := PyData.tuple.inj (List.cons.inj (List.cons.inj e2).2).1
    have at_ : ∀ i, i < n → X i = Y i := fun i hi => by
      have := congrArg (fun l : List PyData => l[i]?) er
      simp only [List.getElem?_map, List.getElem?_range hi, Option.map_some] at this
      exact PyData.int.inj (Option.some.inj this)
    rw [at_ a (by omega), at_ b bn, ez]
    exact h a b ab bn
  · exact fun h => ⟨z, X, rfl, h1, h⟩
def sp_storyQ (K : PySem.W.Frag) : Sp := fun vs H Q _ => ∃ (nv v : V) (m : Addr) (rows : List Addr) (n : Nat) (ties : List (Nat × Nat)) (d : PyData), vs = [nv, .ref m, v] ∧ Net H nv n ties ∧ Mat H m rows n (tieT ties) ∧ n ≤ 40 ∧ Dp K H v d ∧ lenDs d ∧ ∀ (ans : Bool) H', Same H H' → (ans = true ↔ EqD n (tieT ties) d) → Q (.bl ans) H'
theorem cal_storyQ (A : At K mg "story_equal" s_story_equal) (B : Bi mg) (c_is_tuple : Cal P w K mg base 1 "is_tuple" (sp_is_tuple K)) (c_is_number : Cal P w K mg base 1 "is_number" (sp_is_number K)) (c_are_numbers : Cal P w K mg base 2 "are_numbers" (sp_are_numbers K)) : Cal P w K mg base 4 "story_equal" (sp_storyQ K) := by
  have nd := sc_story_equal.nd
  refine A.cal sc_story_equal (fun _ _ _ _ _ _ us hl => match us, hl with | [_, _, _], _ => rfl) ?_ fun f cdv A' outer s H vs Q E hr h => ⟨_, (pss_cons (ps_if (PW.pt (pw_or (pt_not (pt_val (pe_cal c_is_tuple hr (by first | decide | omega) (by rfl) passE (pa_cons (pv 2) (pa_cons pe_int pa_nil))))) (pw_or (pt_not (pt_val (pe_cal c_is_number hr (by first | decide | omega) (by rfl) passE (pa_cons (pe_ix (ix_tupK (K := K) rfl) (pv 2) pe_int (fun _ _ => rfl)) pa_nil)))) (pw_or (pt_cmpR op_lt (pe_ix (ix_tupK (K := K) rfl) (pv 2) pe_int (fun _ _ => rfl)) pe_int (nomark _)) (pw_or1 (pt_not (pt_val (pe_cal c_are_numbers hr (by first | decide | omega) (by rfl) passE (pa_cons (pe_ix (ix_tupK (K := K) rfl) (pv 2) pe_int (fun _ _ => rfl)) (pa_cons (pe_ix (ix_tupK (K := K) rfl) (pv 0) pe_int (fun _ _ => rfl)) pa_nil)))))))))) (pss_one (ps_ret pe_bl)) pss_nil)
  (pss_cons (ps_for passOwn rfl (pi_range1 (by rfl) B.range (pa_cons (pe_ix (ix_tupK (K := K) rfl) (pv 0) pe_int (fun _ _ => rfl)) pa_nil)) (pg_name (i := 3) nd rfl (.inl rfl)) (pss_one (ps_for passOwn rfl (pi_range2 (by rfl) B.range (pa_cons (pe_op op_add (pv 3) pe_int) (pa_cons (pe_ix (ix_tupK (K := K) rfl) (pv 0) pe_int (fun _ _ => rfl)) pa_nil))) (pg_name (i := 4) nd rfl (.inl rfl)) (pss_one (ps_if (pt_cmpR op_ne (pe_ix (ix_listK (K := K) rfl) (pe_ix (ix_listK (K := K) rfl) (pv 1) (pv 3) (fun _ _ => rfl)) (pv 4) (fun _ _ => rfl)) (pe_cmpR op_le (pe_callB call_abs (by rfl) B.abs (by decide +kernel) (pa_cons (pe_op op_sub (pe_ix (ix_tupK (K := K) rfl) (pe_ix (ix_tupK (K := K) rfl) (pv 2) pe_int (fun _ _ => rfl)) (pv 3) (fun _ _ => rfl)) (pe_ix (ix_tupK (K := K) rfl) (pe_ix (ix_tupK (K := K) rfl) (pv 2) pe_int (fun _ _ => rfl)) (pv 4) (fun _ _ => rfl))) pa_nil)) (pe_ix (ix_tupK (K := K) rfl) (pv 2) pe_int (fun _ _ => rfl)) (nomark _)) (nomark _)) (pss_one (ps_ret pe_bl)) pss_nil)))))
  (pss_one (ps_ret pe_bl)))), ?_⟩
  · rintro vs H Q E ⟨nv, v, m, rows, n, ties, d, rfl, _⟩
    rfl
  · obtain ⟨nv, v, m, rows, n, ties, d, rfl, hN, hM, hn, hd, hl, q⟩ := h
    obtain ⟨t0, u0, rfl, h0, _⟩ := id hN
    have no : ∀ H', Same H H' → ¬ EqD n (tieT ties) d → Q (.bl false) H' := fun H' s' h => q false H' s' (iff_of_false Bool.false_ne_true h)
    refine ⟨_, rfl, v, d, 2, rfl, hd, _, rfl, ifN (fun c => no _ (Same.refl H) ?_) (fun c => ?_)⟩
    · rintro ⟨len, X, rfl, _⟩
      cases c
    obtain ⟨e0, e1, rfl⟩ := tup2 c
    have le1 : lenD e1 := hl.2 _ e1 rfl (by simp)
    cases hd with
    | tup hs ha =>
    rename_i p us
    cases ha with
    | cons d0 r =>
    cases r with
    | cons d1 r =>
    cases r
    rename_i v0 v1
    refine ⟨_, rfl, _, _, _, _, rfl, rfl, hs, rfl, _, e0, rfl, d0, _, rfl, ifN (fun c2 => no _ (Same.refl H) ?_) (fun c2 => ?_)⟩
    · rintro ⟨len, X, e, _⟩
      have := (List.cons.inj (PyData.tuple.inj e)).1
      subst this
      cases c2
    obtain ⟨z, rfl⟩ : ∃ z, e0 = .int z := by
      cases e0 with
      | int z => exact ⟨z, rfl⟩
      | _ => cases c2
    cases d0
    refine ⟨_, rfl, _, _, _, _, rfl, rfl, hs, rfl, _, _, rfl, rfl, _, rfl, ifD (fun c3 => no _ (Same.refl H) ?_) (fun c3 => ?_)⟩
    · rintro ⟨len, X, e, h1, _⟩
      have := PyData.int.inj (List.cons.inj (PyData.tuple.inj e)).1
      omega
    refine ⟨_, rfl, _, _, _, _, rfl, rfl, hs, rfl, _, rfl, _, _, _, _, rfl, rfl, SqT.of h0, rfl, v1, e1, n, rfl, d1, le1, fun H1 s1 => ⟨_, rfl, ifN (fun c4 => no _ s1 ?_) (fun c4 => ?_)⟩⟩
    · rintro ⟨len, X, e, h1, _⟩
      have := (List.cons.inj (List.cons.inj (PyData.tuple.inj e)).2).1
      subst this
      rw [areNums_intsD] at c4
      cases c4
    obtain ⟨X, rfl⟩ := intsD_yes c4
    cases d1 with
    | tup hs1 ha1 =>
    rename_i p1 us1
    have ha2 : DpAll K H us1 (((List.range n).map X).map PyData.int) := by rw [List.map_map]; exact ha1
    have eu := dps_vals ha2
    have eu2 : us1 = rowF n X := by rw [eu, List.map_map]; rfl
    subst eu2
    clear ha2 eu
    rw [eqD_iff (by omega)] at q no
    have hM2 := hM.same s1
    have h02 := s1 _ _ h0
    have hs2 := sqT_same s1 hs
    have hs3 := sqT_same s1 hs1
    refine ⟨_, rfl, _, _, _, _, rfl, rfl, SqT.of h02, rfl, _, rfl, by omega, by omega, ?_⟩
    refine for_range (lo := 0) (n := (n : Int).toNat) (fun i σ H3 => ∃ (v3 v4 : Option V), σ = [some (.ref t0), some (.ref m), some (.ref p), v3, v4] ∧ H3 = H1 ∧ ∀ a b, a < i → a < b → b < n → (tieT ties a b = true ↔ ((X a - X b).natAbs : Int) ≤ z)) ⟨none, none, rfl, rfl, fun a b h => absurd h (by omega)⟩ ?_ ?_
    · rintro a σ H3 ha ⟨v3, v4, rfl, rfl, hyes⟩
      have han : a < n := by omega
      have e0 : ((0 : Int) + (a : Nat)) = ((a : Nat) : Int) := by omega
      rw [e0]
      refine ⟨_, rfl, _, _, rfl, rfl, _, rfl, _, _, _, _, rfl, rfl, SqT.of h02, rfl, _, _, rfl, ⟨by omega, by omega, by omega, by omega⟩, ?_⟩
      refine for_range (lo := (a : Int) + 1) (n := ((n : Int) - ((a : Int) + 1)).toNat) (fun i σ H4 => ∃ (v4 : Option V), σ = [some (.ref t0), some (.ref m), some (.ref p), some (pI a), v4] ∧ H4 = H3 ∧ ∀ b, b < a + 1 + i → a < b → b < n → (tieT ties a b = true ↔ ((X a - X b).natAbs : Int) ≤ z)) ⟨v4, rfl, rfl, fun b h1 h2 => absurd h1 (by omega)⟩ ?_ ?_
      · rintro k σ H4 hk ⟨v4, rfl, rfl, hyes2⟩
        obtain ⟨b, hb⟩ : ∃ b : Nat, b = a + 1 + k := ⟨_, rfl⟩
        have hbn : b < n := by omega
        have e1 : ((a : Int) + 1 + (k : Nat)) = ((b : Nat) : Int) := by omega
        rw [e1]
        refine rdM hM2 rfl rfl rfl han hbn ?_
        have eabs : (if X a - X b < 0 then -(X a - X b) else X a - X b) = ((X a - X b).natAbs : Int) := by split <;> omega
        refine ⟨_, rfl, _, _, _, _, rfl, rfl, hs2, rfl, _, rfl, _, _, _, _, rfl, rfl, hs3, atI_nat (j := a) (rowF_at han), _, rfl, _, _, _, _, rfl, rfl, hs2, rfl, _, rfl, _, _, _, _, rfl, rfl, hs3, atI_nat (j := b) (rowF_at hbn), _, _, rfl, rfl, _, rfl, ?_⟩
        rw [eabs]
        refine ⟨_, rfl, _, _, _, _, rfl, rfl, hs2, rfl, _, _, rfl, rfl, ?_⟩
        refine ⟨rfl, _, rfl, ?_⟩
        by_cases e : tieT ties a b = decide (((X a - X b).natAbs : Int) ≤ z)
        · rw [decide_eq_true (congrArg V.bl e)]
          refine iteF ⟨_, rfl, rfl, fun b' h1 h2 h3 => ?_⟩
          by_cases e2 : b' = b
          · rw [e2, e, decide_eq_true_eq]
          · exact hyes2 b' (by omega) h2 h3
        · rw [decide_eq_false fun k => e (V.bl.inj k)]
          exact iteT (no _ s1 fun h => e (by rw [Bool.eq_iff_iff, decide_eq_true_eq]; exact h a b (by omega) hbn))
      · rintro σ H4 ⟨v4, rfl, rfl, hyes2⟩
        refine ⟨_, _, rfl, rfl, fun a' b h1 h2 h3 => ?_⟩
        by_cases e : a' = a
        · rw [e] at h2 ⊢
          exact hyes2 b (by omega) h2 h3
        · exact hyes a' b (by omega) h2 h3
    · rintro σ H3 ⟨v3, v4, rfl, rfl, hyes⟩
      exact q true _ s1 (iff_of_true rfl fun a b h1 h2 => hyes a b (by omega) h1 h2)
end
end Ns
/-! Own layer: the judge's look at places of equal stretches, of any data. -/
--CUT place_equal
namespace Ns
open PySem PySem.Spec PyProof.Rows L2
local macro_rules | `(tactic| walk_at "look") => `(tactic| first | assumption | exact upd_same | (refine (upd_ne (by first | assumption | exact Ne.symm (by assumption))).trans ?_; walk_at "look"))
local macro_rules | `(tactic| walk_at "cond") => `(tactic| first | assumption | omega | (dsimp only; omega) | exact ⟨by omega, by omega⟩ | decide | exact ⟨by decide, by decide, by decide⟩ | exact .inr ⟨by decide, by decide⟩ | exact .inl ⟨by decide, by decide⟩ | exact .inr ⟨by omega, by omega⟩ | exact .inl ⟨by omega, by omega⟩)
local macro_rules | `(tactic| walk_at "rd1") => `(tactic| first
  | refine ⟨_, rfl, ?_⟩
  | refine ⟨_, _, rfl, rfl, ?_⟩
  | refine ⟨rfl, ?_⟩
  | refine ⟨_, _, rfl, rfl, (by walk_at "cond"), ?_⟩
  | refine ⟨_, _, _, _, rfl, rfl, SqL.of (by walk_at "look"), rfl, ?_⟩
  | refine ⟨_, _, _, _, rfl, rfl, SqT.of (by walk_at "look"), rfl, ?_⟩
  | refine ⟨_, _, _, _, rfl, rfl, (by walk_at "look"), rfl, ?_⟩
  | refine .inl ⟨_, rfl, ?_⟩
  | refine ⟨.inl ⟨rfl, _, SqL.of (by walk_at "look")⟩, ?_⟩
  | refine ⟨_, _, rfl, ⟨by omega, by omega, by omega, by omega⟩, ?_⟩
  | refine ⟨_, rfl, (by omega), (by omega), ?_⟩
  | refine And.intro (by walk_at "cond") ?_)
local macro_rules | `(tactic| walk_at "rd") => `(tactic| repeat (walk_at "rd1"))
abbrev N_place_equal : List Str := ["net", "tied", "x", "y"]
theorem sc_place_equal : FnScope N_place_equal ["net", "tied", "x"] (defScope s_place_equal) := ⟨rfl, rfl, rfl, by decide +kernel, rfl, by decide +kernel, by decide +kernel⟩
section
variable {P : Program} {w : World} {K : PySem.W.Frag} {mg : Str → Option Value} {base : Heap}
def sp_restT (K : PySem.W.Frag) : Sp := fun vs H Q _ => ∃ (m a : Addr) (rows : List Addr) (n : Nat) (T : Tm) (xs : List Nat), vs = [.ref m, .ref a] ∧ Mat H m rows n T ∧ SqT K H a (xs.map pI) ∧ (∀ x ∈ xs, x < n) ∧ xs.length ≤ 40 ∧ ∀ H', Same H H' → Q (.bl (reB T xs)) H'
theorem cal_is_restT (A : At K mg "is_rest" s_is_rest) (B : Bi mg) : Cal P w K mg base 1 "is_rest" (sp_restT K) := by
  have nd := sc_is_rest.nd
  refine A.cal sc_is_rest (fun _ _ _ _ _ _ us hl => match us, hl with | [_, _], _ => rfl) ?_ fun f cdv A' outer s H vs Q E hr h => ⟨_, (pss_one (ps_ret (pe_not (pe_callB (cr_any rfl) (by rfl) B.any (by decide +kernel) (pa_cons (pe_lc2 (own := [("x", 2), ("y", 3)]) (vs1 := [3]) rfl nd (pi_tupK (K := K) rfl (pv 1)) (blkOk_by (own := [("x", 2), ("y", 3)]) (N := N_is_rest) (sc := defScope s_is_rest) (by decide +kernel)) (by decide) (fun _ _ _ _ _ => (pg_name (i := 2) nd rfl (.inl rfl) (.inr rfl))) (fun _ _ _ _ _ => pts_nil) (fun _ _ _ _ _ => (pi_tupK (K := K) rfl (pv 1))) (fun _ _ _ _ _ => (pg_name (i := 3) nd rfl (.inl rfl) (.inr rfl))) (fun _ _ _ _ _ => (pts_one (pt_cmpR op_lt (pv 2) (pv 3) (nomark _)))) (fun _ _ _ _ _ => (pe_ix (ix_listK (K := K) rfl) (pe_ix (ix_listK (K := K) rfl) (pv 0) (pv 2) (fun _ _ => rfl)) (pv 3) (fun _ _ => rfl)))) pa_nil))))), ?_⟩
  · rintro vs H Q E ⟨m, a, rows, n, T, xs, rfl, _⟩
    rfl
  · obtain ⟨m, a, rows, n, T, N, rfl, hM, hs, hNn, lN, q⟩ := h
    refine ⟨_, rfl, a, rfl, ⟨_, hs⟩, fun D2 hD2 => ?_⟩
    refine turns_it (walk_tup (K := K) (a := a) (xs := N.map pI)) (fun i H3 => ∃ bs : List Bool, H3 D2 = some (.lst (bs.map V.bl)) ∧ Same H H3 ∧ bs.length ≤ i * 40 ∧ (bs.any id = false ↔ ∀ y ∈ N.take i, ∀ z ∈ N, y < z → T y z = false)) ⟨[], upd_same, same_laid hD2, Nat.zero_le _, by simp⟩ (fun i H3 _ ⟨_, _, s3, _⟩ => sqT_same s3 hs) ?_ ?_
    · rintro j yv H3 H3' hj ⟨bs, hb3, s3, lb, hiff⟩ ⟨rfl, hy⟩
      rw [List.getElem?_map] at hy
      obtain ⟨y, hy1, rfl⟩ := Option.map_eq_some_iff.mp hy
      have hyn := hNn y (List.mem_of_getElem? hy1)
      rw [List.length_map] at hj
      refine ⟨rfl, ?_⟩
      unfold tYes
      dsimp only
      rw [if_pos rfl]
      refine ⟨_, rfl, a, rfl, ⟨_, sqT_same s3 hs⟩, ?_⟩
      refine turns_it (walk_tup (K := K) (a := a) (xs := N.map pI)) (fun k H4 => ∃ bs : List Bool, H4 D2 = some (.lst (bs.map V.bl)) ∧ Same H H4 ∧ bs.length ≤ j * 40 + k ∧ (bs.any id = false ↔ (∀ y ∈ N.take j, ∀ z ∈ N, y < z → T y z = false) ∧ ∀ z ∈ N.take k, y < z → T y z = false)) ⟨bs, hb3, s3, by omega, by rw [hiff]; simp⟩ (fun i H3 _ ⟨_, _, s3, _⟩ => sqT_same s3 hs) ?_ ?_
      · rintro k zv H4 H4' hk ⟨cs, hc4, s4, lc, ciff⟩ ⟨rfl, hz⟩
        rw [List.getElem?_map] at hz
        obtain ⟨z, hz1, rfl⟩ := Option.map_eq_some_iff.mp hz
        have hzn := hNn z (List.mem_of_getElem? hz1)
        rw [List.length_map] at hk
        have etk : N.take (k + 1) = N.take k ++ [z] := by rw [List.take_add_one, hz1]; rfl
        refine ⟨rfl, _, rfl, _, rfl, _, _, rfl, rfl, _, rfl, ?_⟩
        by_cases c : y < z
        · rw [decide_eq_true (show (y : Int) < (z : Int) by omega)]
          refine iteT ?_
          refine rdM (hM.same s4) rfl rfl rfl hyn hzn ?_
          refine ⟨_, hc4, by rw [List.length_map]; exact sizeBig (by have : j * 40 ≤ 40 * 40 := Nat.mul_le_mul (by omega) (Nat.le_refl _); omega), cs ++ [T y z], by rw [upd_same, List.map_append]; rfl, sPut s4 hD2, by rw [List.length_append, List.length_cons, List.length_nil]; omega, ?_⟩
          rw [List.any_append, Bool.or_eq_false_iff, ciff, etk]
          simp only [List.any_cons, List.any_nil, Bool.or_false, id_eq, List.mem_append, List.mem_singleton]
          constructor
          · rintro ⟨⟨h1, h2⟩, h3⟩
            refine ⟨h1, fun u hu hlt => ?_⟩
            rcases hu with hu | hu
            · exact h2 u hu hlt
            · rw [hu]; exact h3
          · rintro ⟨h1, h2⟩
            exact ⟨⟨h1, fun u hu => h2 u (.inl hu)⟩, h2 z (.inr rfl) c⟩
        · rw [decide_eq_false (show ¬ (y : Int) < (z : Int) by omega)]
          refine iteF ?_
          refine ⟨cs, hc4, s4, by omega, ciff.trans ?_⟩
          rw [etk]
          simp only [List.mem_append, List.mem_singleton]
          constructor
          · rintro ⟨h1, h2⟩
            refine ⟨h1, fun u hu hlt => ?_⟩
            rcases hu with hu | hu
            · exact h2 u hu hlt
            · exact absurd (hu ▸ hlt) c
          · exact fun ⟨h1, h2⟩ => ⟨h1, fun u hu => h2 u (.inl hu)⟩
      · rintro H4 ⟨cs, hc4, s4, lc, ciff⟩
        rw [List.length_map] at lc
        rw [List.length_map, List.take_length] at ciff
        refine ⟨cs, hc4, s4, by omega, ciff.trans ?_⟩
        rw [List.take_add_one, hy1]
        simp only [Option.toList_some, List.mem_append, List.mem_singleton]
        constructor
        · rintro ⟨h1, h2⟩ u hu
          rcases hu with hu | hu
          · exact h1 u hu
          · rw [hu]; exact h2
        · exact fun h => ⟨fun u hu => h u (.inl hu), h y (.inr rfl)⟩
    · rintro H3 ⟨bs, hb3, s3, lb, hiff⟩
      rw [List.length_map, List.take_length] at hiff
      refine ⟨D2, bs, rfl, SqL.of hb3, _, rfl, ?_⟩
      have e : (!bs.any id) = reB T N := Bool.eq_iff_iff.mpr (by rw [Bool.not_eq_true']; exact hiff.trans (decide_eq_true_iff).symm)
      rw [e]
      exact q _ s3
theorem ClawP.pts {n : Nat} {T : Tm} {c x y z : Nat} (S : SyT T) (h : ClawP n T c x y z) : [c, x, y, z].Nodup ∧ ∀ u ∈ [c, x, y, z], u < n := by
  obtain ⟨h1, h2, h3, h4, h5, h6, h7, h8, h9, h10, h11, h12, h13⟩ := h
  have ne : ∀ {u v : Nat}, T u v = true → u ≠ v := fun {u v} t e => by
    rw [e, S.ir] at t
    cases t
  refine ⟨by simp [ne h8, ne h9, ne h10, h5, h6, h7], by simp [h1, h2, h3, h4]⟩
theorem tup5D {d : PyData} (h : isTupD d 5 = true) : ∃ e0 e1 e2 e3 e4, d = .tuple [e0, e1, e2, e3, e4] := by
  cases d with
  | tuple ds =>
    unfold isTupD at h
    dsimp only at h
    have h := of_decide_eq_true h
    match ds, h with
    | [e0, e1, e2, e3, e4], _ => exact ⟨e0, e1, e2, e3, e4, rfl⟩
    | [], h => simp at h
    | [_], h => simp at h
    | [_, _], h => simp at h
    | [_, _, _], h => simp at h
    | [_, _, _, _], h => simp at h
    | _ :: _ :: _ :: _ :: _ :: _ :: _, h => simp at h; omega
  | _ => cases h
def sp_clawD (K : PySem.W.Frag) : Sp := fun vs H Q _ => ∃ (nv v : V) (m : Addr) (rows : List Addr) (n : Nat) (ties : List (Nat × Nat)) (d : PyData), vs = [nv, .ref m, v] ∧ Net H nv n ties ∧ Mat H m rows n (tieT ties) ∧ n ≤ 40 ∧ Dp K H v d ∧ lenDs d ∧ SyT (tieT ties) ∧ ∀ (ans : Bool) H', Same H H' → (ans = true ↔ ClawD n (tieT ties) d) → Q (.bl ans) H'
theorem cal_clawD (A : At K mg "place_equal" s_place_equal) (B : Bi mg) (c_place_stretches : Cal P w K mg base 6 "place_stretches" (sp_bentD K)) (c_is_tuple : Cal P w K mg base 1 "is_tuple" (sp_is_tuple K)) (c_are_points : Cal P w K mg base 3 "are_points" (sp_are_points K)) (c_is_rest : Cal P w K mg base 1 "is_rest" (sp_restT K)) : Cal P w K mg base 7 "place_equal" (sp_clawD K) := by
  have nd := sc_place_equal.nd
  refine A.cal sc_place_equal (fun _ _ _ _ _ _ us hl => match us, hl with | [_, _, _], _ => rfl) ?_ fun f cdv A' outer s H vs Q E hr h => ⟨_, (C8.pss_cut (ps_if (pt_val (pe_cal c_place_stretches hr (by first | decide | omega) (by rfl) passE (pa_cons (pv 0) (pa_cons (pv 1) (pa_cons (pv 2) pa_nil))))) (pss_one (ps_ret pe_bl)) pss_nil)
  (C8.pss_cut (ps_if (PW.pt (pw_or (pt_not (pt_val (pe_cal c_is_tuple hr (by first | decide | omega) (by rfl) passE (pa_cons (pv 2) (pa_cons pe_int pa_nil))))) (pw_or (pt_not (pt_val (pe_callB (call_isiK' (K := K) rfl) (by rfl) B.isinstance (by decide +kernel) (pa_cons (pe_ix (ix_tupK (K := K) rfl) (pv 2) pe_int (fun _ _ => rfl)) (pa_cons (pe_bltn (v := .ty "str") (u := .type "str") (by rfl) B.str_ (by decide +kernel) rfl) pa_nil))))) (pw_or (pt_cmpR op_ne (pe_ix (ix_tupK (K := K) rfl) (pv 2) pe_int (fun _ _ => rfl)) pe_str (nomark _)) (pw_or1 (pt_not (pt_val (pe_cal c_are_points hr (by first | decide | omega) (by rfl) passE (pa_cons (pv 0) (pa_cons (pe_slice (sl_tupAK (K := K) rfl) (pv 2) (po_some pe_int) po_none) pa_nil)))))))))) (pss_one (ps_ret pe_bl)) pss_nil)
  (pss_one (ps_ret (pe_and (pe_callB (cr_all rfl) (by rfl) B.all (by decide +kernel) (pa_cons (pe_lc (own := [("y", 3)]) rfl nd (pi_tupK (K := K) rfl (pe_slice (sl_tupAK (K := K) rfl) (pv 2) (po_some pe_int) po_none)) (blkOk_by (own := [("y", 3)]) (N := N_place_equal) (sc := defScope s_place_equal) (by decide +kernel)) (fun _ _ _ _ _ => (pg_name (i := 3) nd rfl (.inl rfl) (.inr rfl))) (fun _ _ _ _ _ => pts_nil) (fun _ _ _ _ _ => (pe_ix (ix_listK (K := K) rfl) (pe_ix (ix_listK (K := K) rfl) (pv 1) (pe_ix (ix_tupK (K := K) rfl) (pv 2) pe_int (fun _ _ => rfl)) (fun _ _ => rfl)) (pv 3) (fun _ _ => rfl)))) pa_nil)) (pe_one (pe_cal c_is_rest hr (by first | decide | omega) (by rfl) passE (pa_cons (pv 1) (pa_cons (pe_slice (sl_tupAK (K := K) rfl) (pv 2) (po_some pe_int) po_none) pa_nil))))))))), ?_⟩
  · rintro vs H Q E ⟨nv, v, m, rows, n, ties, d, rfl, _⟩
    rfl
  · obtain ⟨nv, v, m, rows, n, ties, d, rfl, hN, hM, hn, hd, hl, hS, q⟩ := h
    have S : SyT (tieT ties) := hS
    have no : ∀ H', Same H H' → ¬ ClawD n (tieT ties) d → Q (.bl false) H' := fun H' s' h => q false H' s' (iff_of_false Bool.false_ne_true h)
    refine cut_midU (fun σ' H' => σ' = [some nv, some (.ref m), some v, none] ∧ Same H H' ∧ ¬ BentD n (tieT ties) d) ?_ ?_
    · refine ⟨_, rfl, _, rfl, _, rfl, nv, v, m, rows, n, ties, d, rfl, hN, hM, hn, hd, hl, fun a H1 s1 ha => ⟨_, rfl, ?_⟩⟩
      cases a with
      | true => exact iteT (q true _ s1 (iff_of_true rfl (.inl (ha.mp rfl))))
      | false => exact iteF ⟨rfl, s1, fun h => Bool.false_ne_true (ha.mpr h)⟩
    rintro σ' H1 ⟨rfl, s1, nb⟩
    have noC : ∀ H2, Same H1 H2 → (¬ ∃ c x y z : Nat, d = .tuple [.str "claw", .int (c : Int), .int (x : Int), .int (y : Int), .int (z : Int)] ∧ ClawP n (tieT ties) c x y z) → Q (.bl false) H2 := fun H2 s2 h => no H2 (s1.trans s2) fun k => k.elim nb h
    have hN1 := hN.keep (sKt s1)
    have hM1 := hM.same s1
    have hd1 := Dp.same s1 _ _ hd
    clear hd hN hM
    refine cut_midU (fun σ' H2 => σ' = [some nv, some (.ref m), some v, none] ∧ Same H1 H2 ∧ ∃ c x y z : Nat, d = .tuple [.str "claw", .int (c : Int), .int (x : Int), .int (y : Int), .int (z : Int)] ∧ c < n ∧ x < n ∧ y < n ∧ z < n ∧ [c, x, y, z].Nodup) ?_ ?_
    · refine ⟨_, rfl, v, d, 5, rfl, hd1, _, rfl, ifN (fun ct => noC _ (Same.refl _) ?_) (fun ct => ?_)⟩
      · rintro ⟨a, x, y, z, rfl, _⟩
        cases ct
      · obtain ⟨e0, e1, e2, e3, e4, rfl⟩ := tup5D ct
        cases hd1 with
        | tup hs ha =>
          rename_i a us
          cases ha with
          | cons h0 ha =>
            rename_i v0 us
            refine ⟨_, rfl, _, _, _, _, rfl, rfl, hs, atI_nat (xs := v0 :: us) (j := 0) rfl, _, .ty "str", .type (tyName _), .type "str", _, rfl, .ty _, tyX_of h0, kit_ty (kit_isi _ "str" (by simp)), _, rfl, ifN (fun c2 => noC _ (Same.refl _) ?_) (fun c2 => ?_)⟩
            · rintro ⟨a, x, y, z, he, _⟩
              have := PyData.tuple.inj he
              simp only [List.cons.injEq] at this
              rw [this.1] at c2
              cases c2
            · rw [isi_str] at c2
              cases h0 with
              | str t =>
                refine ⟨_, rfl, _, _, _, _, rfl, rfl, hs, atI_nat (xs := V.str t :: us) (j := 0) rfl, rfl, _, rfl, ifND (fun c3 => noC _ (Same.refl _) ?_) (fun c3 => ?_)⟩
                · rintro ⟨a, x, y, z, he, _⟩
                  have := PyData.tuple.inj he
                  simp only [List.cons.injEq, PyData.str.injEq] at this
                  exact c3 (by rw [this.1])
                · have c3 := V.str.inj c3
                  subst c3
                  refine ⟨_, rfl, _, rfl, _, rfl, ?_⟩
                  unfold tNoPart
                  dsimp only
                  refine slQT hs fun p H2 s2 hp => ?_
                  rw [show (some (1 : Int)) = some ((1 : Nat) : Int) from rfl, cutV_past] at hp
                  have hdr : Dp K H2 (.ref p) (.tuple [e1, e2, e3, e4]) := .tup hp (DpAll.same s2 _ _ ha)
                  refine ⟨nv, .ref p, n, ties, .tuple [e1, e2, e3, e4], rfl, hN1.keep (sKt s2), hdr, fun ds e => by cases e; show 4 ≤ 2000; decide, _, rfl, ifN (fun c4 => noC _ s2 ?_) (fun c4 => ?_)⟩
                  · rintro ⟨b, x, y, z, he, cp⟩
                    have := PyData.tuple.inj he
                    simp only [List.cons.injEq, and_true, true_and] at this
                    obtain ⟨rfl, rfl, rfl, rfl⟩ := this
                    obtain ⟨ndx, lt⟩ := cp.pts S
                    have := row_pts (n := n) (W := [b, x, y, z]) lt ndx
                    rw [show rowD [b, x, y, z] = .tuple [.int (b : Int), .int (x : Int), .int (y : Int), .int (z : Int)] from rfl, c4] at this
                    cases this
                  · obtain ⟨xs, e, hlt, ndx, _⟩ := ptsF_yes c4
                    have e := PyData.tuple.inj e
                    match xs, e, hlt, ndx with
                    | [c, x, y, z], e, hlt, ndx =>
                      simp only [List.map_cons, List.map_nil, List.cons.injEq, and_true] at e
                      obtain ⟨rfl, rfl, rfl, rfl⟩ := e
                      exact ⟨rfl, s2, c, x, y, z, rfl, hlt c (by simp), hlt x (by simp), hlt y (by simp), hlt z (by simp), ndx⟩
                    | [], e, _, _ => cases e
                    | [_], e, _, _ => simp at e
                    | [_, _], e, _, _ => simp at e
                    | [_, _, _], e, _, _ => simp at e
                    | _ :: _ :: _ :: _ :: _ :: _, e, _, _ => simp at e
              | _ => cases c2
    rintro σ' H2 ⟨rfl, s2, c, x, y, z, rfl, hc, hx, hy', hz, ndx⟩
    cases hd1 with
    | tup hs ha =>
    rename_i a us
    cases ha with
    | cons h0 ha =>
    cases h0
    cases ha with
    | cons h1 ha =>
    cases h1
    cases ha with
    | cons h2 ha =>
    cases h2
    cases ha with
    | cons h3 ha =>
    cases h3
    cases ha with
    | cons h4 ha =>
    cases h4
    cases ha
    have hs2 := sqT_same s2 hs
    have hM2 := hM1.same s2
    refine ⟨_, rfl, _, rfl, ?_⟩
    unfold tNoPart
    dsimp only
    refine slQT hs2 fun r H3 s3 hr3 => ?_
    have hr3 : SqT K H3 r ([x, y, z].map pI) := hr3
    refine ⟨r, rfl, ⟨_, hr3⟩, fun D hD => ?_⟩
    have hM3 := hM2.same s3
    have hs3 := sqT_same s3 hs2
    refine comp_tupI (K := K) (us := [x, y, z].map pI) (fun i => some (tieT ties c ([x, y, z].getD i 0))) persPtB hD hr3 (by show 3 < sizeLine; decide) ?_ ?_
    · intro i u H4 Yes No hu s4 yes no
      rw [List.getElem?_map] at hu
      obtain ⟨e, he, rfl⟩ := Option.map_eq_some_iff.mp hu
      have en : e < n := by
        have := List.mem_of_getElem? he
        simp only [List.mem_cons, List.not_mem_nil, or_false] at this
        rcases this with k | k | k <;> rw [k] <;> assumption
      have eg : [x, y, z].getD i 0 = e := by rw [List.getD_eq_getElem?_getD, he]; rfl
      refine ⟨rfl, ?_⟩
      unfold tYes
      dsimp only
      rw [if_pos rfl]
      have hM4 := hM3.same s4
      obtain ⟨rc, hrc, hlc⟩ := hM4.row hc
      refine ⟨_, rfl, _, rfl, _, _, _, _, rfl, rfl, sqT_same s4 hs3, rfl, _, _, _, .ref rc, rfl, rfl, SqL.of hM4.top, atI_nat (j := c) (by rw [List.getElem?_map, hrc]; rfl), _, rfl, _, _, _, _, rfl, rfl, SqL.of hlc, atI_nat (j := e) (rowV_at en), yes _ rfl _ _ (Same.refl _) ?_⟩
      show V.bl _ = V.bl _
      rw [eg]
    · intro H4 ys s4 hy pr
      rw [fm_some] at pr
      have e := pairedB_eq pr
      subst e
      refine ⟨D, _, rfl, SqL.of hy, _, rfl, ?_⟩
      have s24 := s2.trans (s3.trans s4)
      have e9 : (List.map (fun i => tieT ties c ([x, y, z].getD i 0)) (List.range (List.map pI [x, y, z]).length)).all id = (tieT ties c x && (tieT ties c y && (tieT ties c z && true))) := rfl
      rw [e9, Bool.and_true]
      have isC : ∀ ans : Bool, (ans = true ↔ (tieT ties c x && (tieT ties c y && tieT ties c z)) = true ∧ reB (tieT ties) [x, y, z] = true) → (ans = true ↔ ClawD n (tieT ties) (.tuple [.str "claw", .int (c : Int), .int (x : Int), .int (y : Int), .int (z : Int)])) := fun ans h => by
        rw [h]
        simp only [List.nodup_cons, List.mem_cons, List.not_mem_nil, or_false, not_or] at ndx
        rw [Bool.and_eq_true, Bool.and_eq_true]
        constructor
        · rintro ⟨⟨t1, t2, t3⟩, r⟩
          have r := of_decide_eq_true r
          have off : ∀ u v, u ∈ [x, y, z] → v ∈ [x, y, z] → u ≠ v → tieT ties u v = false := fun u v hu hv ne => by
            rcases Nat.lt_or_gt_of_ne ne with l | l
            · exact r u hu v hv l
            · rw [S.sy]
              exact r v hv u hu l
          exact .inr ⟨c, x, y, z, rfl, hc, hx, hy', hz, ndx.2.1.1, ndx.2.1.2, ndx.2.2.1, t1, t2, t3, off x y (by simp) (by simp) ndx.2.1.1, off x z (by simp) (by simp) ndx.2.1.2, off y z (by simp) (by simp) ndx.2.2.1⟩
        · rintro (k | ⟨c', x', y', z', e, k⟩)
          · exact absurd k nb
          · have e := PyData.tuple.inj e
            simp only [List.cons.injEq, and_true, true_and, PyData.int.injEq] at e
            obtain ⟨e1, e2, e3, e4⟩ := e
            have e1 : c = c' := by omega
            have e2 : x = x' := by omega
            have e3 : y = y' := by omega
            have e4 : z = z' := by omega
            subst e1 e2 e3 e4
            obtain ⟨_, _, _, _, _, _, _, t1, t2, t3, o1, o2, o3⟩ := k
            refine ⟨⟨t1, t2, t3⟩, decide_eq_true fun u hu v hv l => ?_⟩
            simp only [List.mem_cons, List.not_mem_nil, or_false] at hu hv
            have sy := S.sy
            rcases hu with rfl | rfl | rfl <;> rcases hv with rfl | rfl | rfl <;> first | omega | assumption | (rw [sy]; assumption)
      cases cc : (tieT ties c x && (tieT ties c y && tieT ties c z)) with
      | false =>
        refine iteF (q false _ (s1.trans s24) (isC false ?_))
        rw [cc]
        exact ⟨fun h => (nomatch h), fun h => h.1⟩
      | true =>
        refine iteT ⟨_, rfl, _, rfl, _, rfl, ?_⟩
        dsimp only
        refine slQT (sqT_same s4 hs3) fun r2 H5 s5 hr5 => ?_
        have hr5 : SqT K H5 r2 ([x, y, z].map pI) := hr5
        refine ⟨m, r2, rows, n, tieT ties, [x, y, z], rfl, hM3.same (s4.trans s5), hr5, ?_, by simp, fun H6 s6 => q _ _ (s1.trans (s24.trans (s5.trans s6))) (isC _ ?_)⟩
        · intro u hu
          simp only [List.mem_cons, List.not_mem_nil, or_false] at hu
          rcases hu with rfl | rfl | rfl <;> assumption
        · rw [cc]
          exact ⟨fun h => ⟨rfl, h⟩, fun h => h.2⟩
end
end Ns
/-! Own layer: the law's looks at papers of chordal and of split. -/
--CUT _law_is_unsplit _law_points
namespace Ns
open PySem PySem.Spec PyProof.Rows L2
local macro_rules | `(tactic| walk_at "look") => `(tactic| first | assumption | exact upd_same | (refine (upd_ne (by first | assumption | exact Ne.symm (by assumption))).trans ?_; walk_at "look"))
local macro_rules | `(tactic| walk_at "cond") => `(tactic| first | assumption | omega | (dsimp only; omega) | exact ⟨by omega, by omega⟩ | decide | exact ⟨by decide, by decide, by decide⟩ | exact .inr ⟨by decide, by decide⟩ | exact .inl ⟨by decide, by decide⟩ | exact .inr ⟨by omega, by omega⟩ | exact .inl ⟨by omega, by omega⟩)
local macro_rules | `(tactic| walk_at "rd1") => `(tactic| first
  | refine ⟨_, rfl, ?_⟩
  | refine ⟨_, _, rfl, rfl, ?_⟩
  | refine ⟨rfl, ?_⟩
  | refine ⟨_, _, rfl, rfl, (by walk_at "cond"), ?_⟩
  | refine ⟨_, _, _, _, rfl, rfl, SqL.of (by walk_at "look"), rfl, ?_⟩
  | refine ⟨_, _, _, _, rfl, rfl, SqT.of (by walk_at "look"), rfl, ?_⟩
  | refine ⟨_, _, _, _, rfl, rfl, (by walk_at "look"), rfl, ?_⟩
  | refine .inl ⟨_, rfl, ?_⟩
  | refine ⟨.inl ⟨rfl, _, SqL.of (by walk_at "look")⟩, ?_⟩
  | refine ⟨_, _, rfl, ⟨by omega, by omega, by omega, by omega⟩, ?_⟩
  | refine ⟨_, rfl, (by omega), (by omega), ?_⟩
  | refine And.intro (by walk_at "cond") ?_)
local macro_rules | `(tactic| walk_at "rd") => `(tactic| repeat (walk_at "rd1"))
abbrev N_law_is_bare_ring : List Str := ["net", "ring_v", "least", "tied", "i", "j"]
theorem sc_law_is_bare_ring : FnScope N_law_is_bare_ring ["net", "ring_v", "least"] (defScope s_law_is_bare_ring) := ⟨rfl, rfl, rfl, by decide +kernel, rfl, by decide +kernel, by decide +kernel⟩
section
variable {P : Program} {w : World} {K : PySem.W.Frag} {mg : Str → Option Value} {base : Heap}
theorem cal_law_whole (A : At K mg "_law_whole" s_law_whole) (B : Bi mg) : Cal P w K mg base 1 "_law_whole" (sp_is_number K) := by
  have nd := sc_law_whole.nd
  refine A.cal sc_law_whole (fun _ _ _ _ _ _ us hl => match us, hl with | [_], _ => rfl) ?_ fun f cdv A' outer s H vs Q E hr h => ⟨_, (pss_one (ps_ret (pe_and (pe_callB (call_isiK' (K := K) rfl) (by rfl) B.isinstance (by decide +kernel) (pa_cons (pv 0) (pa_cons (pe_bltn (v := .ty "int") (u := .type "int") (by rfl) B.int_ (by decide +kernel) rfl) pa_nil))) (pe_one (pe_not (pe_callB (call_isiK' (K := K) rfl) (by rfl) B.isinstance (by decide +kernel) (pa_cons (pv 0) (pa_cons (pe_bltn (v := .ty "bool") (u := .type "bool") (by rfl) B.bool (by decide +kernel) rfl) pa_nil)))))))), ?_⟩
  · rintro vs H Q E ⟨v, d, rfl, _⟩
    rfl
  · obtain ⟨v, d, rfl, hd, q⟩ := h
    refine ⟨_, rfl, _, .ty "int", .type (tyName _), .type "int", _, rfl, .ty _, tyX_of hd, kit_ty (kit_isi _ "int" (by simp)), ?_⟩
    rw [isi_int]
    refine ⟨_, rfl, ifB (fun c => ?_) (fun c => ?_)⟩
    · refine ⟨_, rfl, _, .ty "bool", .type (tyName _), .type "bool", _, rfl, .ty _, tyX_of hd, kit_ty (kit_isi _ "bool" (by simp)), ?_⟩
      rw [isi_bool]
      refine ⟨_, rfl, ?_⟩
      cases d <;> first | exact q | cases c
    · cases d <;> first | exact q | cases c
def sp_lpts (K : PySem.W.Frag) : Sp := fun vs H Q _ => ∃ (nv v : V) (m : Int) (n : Nat) (ties : List (Nat × Nat)) (d : PyData), vs = [v, .int m, nv] ∧ Net H nv n ties ∧ Dp K H v d ∧ Q (.bl (lPtsD d m n)) H
theorem cal_lpts (A : At K mg "_law_points" s_law_points) (B : Bi mg) (c_law_whole : Cal P w K mg base 1 "_law_whole" (sp_is_number K)) : Cal P w K mg base 2 "_law_points" (sp_lpts K) := by
  have nd := sc_law_points.nd
  refine A.cal sc_law_points (fun _ _ _ _ _ _ us hl => match us, hl with | [_, _, _], _ => rfl) ?_ fun f cdv A' outer s H vs Q E hr h => ⟨_, (C8.pss_cut (ps_if (PW.pt (pw_or (pt_not (pt_val (pe_callB (call_isiK' (K := K) rfl) (by rfl) B.isinstance (by decide +kernel) (pa_cons (pv 0) (pa_cons (pe_bltn (v := .ty "tuple") (u := .type "tuple") (by rfl) B.tuple (by decide +kernel) rfl) pa_nil))))) (pw_or1 (PW.pt (pw_and (pt_cmpR op_ge (pv 1) pe_int (nomark _)) (pw_and1 (pt_cmpR op_ne (pe_callB (call_lenK (K := K) rfl) (by rfl) B.len (by decide +kernel) (pa_cons (pv 0) pa_nil)) (pv 1) (nomark _)))))))) (pss_one (ps_ret pe_bl)) pss_nil)
  (pss_cons (ps_for passOwn rfl (pi_tupK (K := K) rfl (pv 0)) (pg_name (i := 3) nd rfl (.inl rfl)) (pss_one (ps_if (PW.pt (pw_or (pt_not (pt_val (pe_cal c_law_whole hr (by first | decide | omega) (by rfl) passE (pa_cons (pv 3) pa_nil)))) (pw_or1 (pt_not (pt_chain op_le op_lt pe_int (pv 3) (pe_ix (ix_tupK (K := K) rfl) (pv 2) pe_int (fun _ _ => rfl))))))) (pss_one (ps_ret pe_bl)) pss_nil)))
  (pss_one (ps_ret pe_bl)))), ?_⟩
  · rintro vs H Q E ⟨nv, v, m, n, ties, d, rfl, _⟩
    rfl
  · obtain ⟨nv, v, m, n, ties, d, rfl, hN, hd, q⟩ := h
    obtain ⟨t, u1, rfl, h, _⟩ := hN
    refine cut_midJ (fun σ' H' => σ' = [some v, some (.int m), some (.ref t), none] ∧ H' = H ∧ ∃ ds, d = .tuple ds ∧ (m < 0 ∨ (ds.length : Int) = m)) ?_ ?_
    · refine ⟨_, rfl, _, .ty "tuple", .type (tyName _), .type "tuple", _, rfl, .ty _, tyX_of hd, kit_ty (kit_isi _ "tuple" (by simp)), ?_⟩
      rw [isi_tuple]
      refine ⟨_, rfl, ifN (fun c => ?_) (fun c => ?_)⟩
      · have e : lPtsD d m n = false := by cases d <;> first | rfl | cases c
        rw [e] at q
        exact q
      · cases hd with
        | tup hs ha =>
          rename_i a us ds
          have lu := DpAll.len ha
          refine ⟨_, rfl, _, _, rfl, rfl, _, rfl, ifD (fun c2 => ?_) (fun c2 => ?_)⟩
          · refine ⟨_, rfl, _, _, rfl, .inr ⟨_, hs, rfl⟩, _, rfl, rfl, _, rfl, ifNI (fun c3 => ?_) (fun c3 => ?_)⟩
            · have e : lPtsD (.tuple ds) m n = false := by
                have c2 : 0 ≤ m := c2
                unfold lPtsD
                dsimp only
                rw [decide_eq_false (show ¬ m < 0 by omega), decide_eq_false (show ¬ (ds.length : Int) = m by rw [← lu]; exact c3)]
                rfl
              rw [e] at q
              exact q
            · exact ⟨rfl, rfl, ds, rfl, .inr (by rw [← lu]; exact c3)⟩
          · exact iteF ⟨rfl, rfl, ds, rfl, .inl (by have c2 : ¬ 0 ≤ m := c2; omega)⟩
        | _ => cases c
    · rintro σ' H' ⟨rfl, rfl, ds, rfl, hm⟩
      have q : Q (.bl (ptsOf n ds).isSome) H' := by
        have e : lPtsD (.tuple ds) m n = (ptsOf n ds).isSome := by
          unfold lPtsD
          dsimp only
          rcases hm with hm | hm
          · rw [decide_eq_true hm, Bool.true_or, Bool.true_and]
          · rw [decide_eq_true hm, Bool.or_true, Bool.true_and]
        rw [e] at q
        exact q
      cases hd with
      | tup hs ha =>
        rename_i a us
        refine ⟨_, rfl, a, rfl, ⟨_, hs⟩, for_tup (K := K) (a := a) (xs := us) (fun i σ H1 => ∃ v2, σ = [some (.ref a), some (.int m), some (.ref t), v2] ∧ H1 = H' ∧ ∀ d ∈ ds.take i, isPtD n d = true) ⟨none, rfl, rfl, fun d h => nomatch h⟩ (fun i σ H1 _ ⟨_, _, e, _⟩ => by rw [e]; exact hs) ?_ ?_⟩
        · rintro i y σ H1 hy ⟨v2, rfl, rfl, hall⟩
          obtain ⟨d, hd1, hd2⟩ := dpAt ha hy
          have nxt : isPtD n d = true → ∃ v2, [some (V.ref a), some (.int m), some (.ref t), some y] = [some (V.ref a), some (.int m), some (.ref t), v2] ∧ H1 = H1 ∧ ∀ d ∈ ds.take (i + 1), isPtD n d = true := fun hp => by
            refine ⟨_, rfl, rfl, fun e he => ?_⟩
            rw [List.take_add_one, hd1] at he
            rcases List.mem_append.mp he with he | he
            · exact hall e he
            · rw [List.mem_singleton.mp he]
              exact hp
          have no : isPtD n d = false → Q (.bl false) H1 := fun hp => by
            rw [ptsOf_none (List.mem_of_getElem? hd1) hp] at q
            exact q
          refine ⟨_, rfl, y, d, rfl, hd2, _, rfl, ifN (fun c => no (isPt_num c)) (fun c => ?_)⟩
          cases hd2 with
          | int z =>
            have ez : isPtD n (.int z) = decide (0 ≤ z ∧ z < (n : Int)) := by
              unfold isPtD ptOf
              dsimp only
              by_cases c : 0 ≤ z ∧ z < (n : Int)
              · rw [if_pos c, decide_eq_true c]; rfl
              · rw [if_neg c, decide_eq_false c]; rfl
            refine ⟨_, rfl, _, _, rfl, rfl, _, rfl, ifD (fun c1 => ?_) (fun c1 => ?_)⟩
            · refine ⟨_, rfl, _, _, _, _, rfl, rfl, SqT.of h, rfl, _, _, rfl, rfl, _, rfl, ifN (fun c2 => ?_) (fun c2 => ?_)⟩
              · exact no (by rw [ez]; exact decide_eq_false fun z => of_decide_eq_false c2 z.2)
              · exact nxt (by rw [ez]; exact decide_eq_true ⟨c1, of_decide_eq_true c2⟩)
            · exact ⟨_, rfl, iteT (no (by rw [ez]; exact decide_eq_false fun z => c1 z.1))⟩
          | _ => cases c
        · rintro σ H1 ⟨v2, rfl, rfl, hall⟩
          rw [DpAll.len ha, List.take_length] at hall
          obtain ⟨ps, hps⟩ := ptsOf_all hall
          rw [hps] at q
          exact q
def sp_lunlikeJ (K : PySem.W.Frag) : Sp := fun vs H Q _ => ∃ (a : Addr) (xs : List Nat), vs = [.ref a] ∧ SqT K H a (xs.map pI) ∧ ∀ H', Same H H' → Q (.bl (decide xs.Nodup)) H'
theorem cal_lunlikeJ (A : At K mg "_law_unlike" s_law_unlike) (B : Bi mg) : Cal P w K mg base 1 "_law_unlike" (sp_lunlikeJ K) := by
  have nd := sc_law_unlike.nd
  refine A.cal sc_law_unlike (fun _ _ _ _ _ _ us hl => match us, hl with | [_], _ => rfl) ?_ fun f cdv A' outer s H vs Q E hr h => ⟨_, (pss_cons (ps_for passOwn rfl (pi_enumTK (K := K) rfl (by rfl) B.enumerate (pa_cons (pv 0) pa_nil)) (pg_tupK (K := K) (n := 2) rfl rfl (pgs_cons (pg_name (i := 1) nd rfl (.inl rfl)) (pgs_cons (pg_name (i := 2) nd rfl (.inl rfl)) pgs_nil))) (pss_one (ps_if (pt_cmpR (op_in_seqK (K := K) rfl) (pv 2) (pe_slice (sl_tupAK (K := K) rfl) (pv 0) po_none (po_some (pv 1))) rfl) (pss_one (ps_ret pe_bl)) pss_nil)))
  (pss_one (ps_ret pe_bl))), ?_⟩
  · rintro vs H Q E ⟨a, xs, rfl, _⟩
    rfl
  · obtain ⟨a, xs, rfl, hs, q⟩ := h
    refine ⟨_, rfl, a, _, rfl, hs, ?_⟩
    refine for_it walk_enumT (fun i σ H1 => ∃ v1 v2, σ = [some (.ref a), v1, v2] ∧ Same H H1 ∧ (xs.take i).Nodup) ⟨none, none, rfl, Same.refl _, List.nodup_nil⟩ (fun i σ H1 _ ⟨_, _, _, s1, _⟩ => sqT_same s1 hs) ?_ ?_
    · rintro i xv σ H1 H1' hi ⟨v1, v2, rfl, s1, nd1⟩ ⟨tt, e1, e2, rfl, nt, rfl, h3, h4⟩
      have e3 : V.int (i : Nat) = e1 := Option.some.inj h3
      subst e3
      have h4 : (xs.map pI)[i]? = some e2 := h4
      rw [List.getElem?_map] at h4
      obtain ⟨x, hx, rfl⟩ := Option.map_eq_some_iff.mp h4
      refine ⟨tt, _, rfl, SqT.of upd_same, rfl, _, _, rfl, _, _, rfl, rfl, ?_⟩
      have s2 := sNew s1 (o := .tup [.int (i : Nat), pI x]) nt
      refine ⟨_, rfl, _, rfl, _, rfl, _, rfl, slQT (sqT_same s2 hs) fun r H3 s3 hr3 => ?_⟩
      rw [cutV_take, ← List.map_take] at hr3
      refine ⟨_, _, rfl, .inr hr3, rfl, List.all_eq_true.mpr (fun v hv => by obtain ⟨z, _, rfl⟩ := List.mem_map.mp hv; rfl), _, rfl, ?_⟩
      rw [show inV (pI x) ((xs.take i).map pI) = decide (x ∈ xs.take i) from inV_ptsJ x _]
      have etk : xs.take (i + 1) = xs.take i ++ [x] := by rw [List.take_add_one, hx]; rfl
      refine ifD (fun c => ?_) (fun c => ?_)
      · have e : decide xs.Nodup = false := decide_eq_false fun nd2 => by
          have h5 := nd2.sublist (List.take_sublist (i + 1) xs)
          rw [etk] at h5
          exact (List.nodup_append.mp h5).2.2 x c x (by simp) rfl
        rw [e] at q
        exact q _ (s2.trans s3)
      · refine ⟨_, _, rfl, s2.trans s3, ?_⟩
        rw [etk]
        exact List.nodup_append.mpr ⟨nd1, by simp, fun a ha b hb e => c (by rw [← List.mem_singleton.mp hb, ← e]; exact ha)⟩
    · rintro σ H1 ⟨v1, v2, rfl, s1, nd1⟩
      rw [List.length_map, List.take_length] at nd1
      rw [decide_eq_true nd1] at q
      exact q _ s1
/-- data that the law takes for points, and for unlike ones -/
theorem lpts_no {n : Nat} {m : Int} {d : PyData} (F : List Nat → Bool) (h : lPtsD d m n = false) (hF : ∀ xs, 0 ≤ m → (xs.length : Int) ≠ m → F xs = false) : ptsF n F d = false := by
  cases c : arePtsD n d with
  | false => exact ptsF_no c
  | true =>
    obtain ⟨xs, rfl, hlt, ndx, e⟩ := ptsF_yes c
    rw [e]
    unfold lPtsD at h
    dsimp only at h
    rw [ptsOf_castJ hlt, List.length_map] at h
    by_cases c1 : m < 0
    · rw [decide_eq_true c1] at h; cases h
    · by_cases c2 : (xs.length : Int) = m
      · rw [decide_eq_true c2, Bool.or_true] at h; cases h
      · exact hF xs (by omega) c2
theorem lpts_yes {n : Nat} {m : Int} {d : PyData} (h : lPtsD d m n = true) : ∃ xs : List Nat, d = .tuple (xs.map fun x : Nat => PyData.int (x : Int)) ∧ (∀ x ∈ xs, x < n) ∧ (m < 0 ∨ (xs.length : Int) = m) ∧ ∀ F, ptsF n F d = (decide xs.Nodup && F xs) := by
  cases d with
  | tuple ds =>
    unfold lPtsD at h
    dsimp only at h
    cases e : ptsOf n ds with
    | none => rw [e, Option.isSome_none, Bool.and_false] at h; cases h
    | some xs =>
      obtain ⟨rfl, hlt⟩ := ptsOf_some e
      refine ⟨xs, rfl, hlt, ?_, fun F => ptsF_all e⟩
      rw [List.length_map] at h
      have h := (Bool.and_eq_true_iff.mp h).1
      rw [Bool.or_eq_true, decide_eq_true_eq, decide_eq_true_eq] at h
      exact h
  | _ => cases h
end
end Ns
/-! Own layer: the law's look at rings without a chord, of any data. -/
namespace Ns
open PySem PySem.Spec PyProof.Rows L2
local macro_rules | `(tactic| walk_at "look") => `(tactic| first | assumption | exact upd_same | (refine (upd_ne (by first | assumption | exact Ne.symm (by assumption))).trans ?_; walk_at "look"))
local macro_rules | `(tactic| walk_at "cond") => `(tactic| first | assumption | omega | (dsimp only; omega) | exact ⟨by omega, by omega⟩ | decide | exact ⟨by decide, by decide, by decide⟩ | exact .inr ⟨by decide, by decide⟩ | exact .inl ⟨by decide, by decide⟩ | exact .inr ⟨by omega, by omega⟩ | exact .inl ⟨by omega, by omega⟩)
local macro_rules | `(tactic| walk_at "rd1") => `(tactic| first
  | refine ⟨_, rfl, ?_⟩
  | refine ⟨_, _, rfl, rfl, ?_⟩
  | refine ⟨rfl, ?_⟩
  | refine ⟨_, _, rfl, rfl, (by walk_at "cond"), ?_⟩
  | refine ⟨_, _, _, _, rfl, rfl, SqL.of (by walk_at "look"), rfl, ?_⟩
  | refine ⟨_, _, _, _, rfl, rfl, SqT.of (by walk_at "look"), rfl, ?_⟩
  | refine ⟨_, _, _, _, rfl, rfl, (by walk_at "look"), rfl, ?_⟩
  | refine .inl ⟨_, rfl, ?_⟩
  | refine ⟨.inl ⟨rfl, _, SqL.of (by walk_at "look")⟩, ?_⟩
  | refine ⟨_, _, rfl, ⟨by omega, by omega, by omega, by omega⟩, ?_⟩
  | refine ⟨_, rfl, (by omega), (by omega), ?_⟩
  | refine And.intro (by walk_at "cond") ?_)
local macro_rules | `(tactic| walk_at "rd") => `(tactic| repeat (walk_at "rd1"))
section
variable {P : Program} {w : World} {K : PySem.W.Frag} {mg : Str → Option Value} {base : Heap}
def sp_lbare (K : PySem.W.Frag) : Sp := fun vs H Q _ => ∃ (nv v : V) (n : Nat) (ties : List (Nat × Nat)) (d : PyData), vs = [nv, v, .int 4] ∧ Net H nv n ties ∧ Good n ties ∧ n ≤ 40 ∧ Dp K H v d ∧ lenD d ∧ ∀ H', Same H H' → Q (.bl (longD n (tieT ties) d)) H'
theorem cal_lbare (A : At K mg "_law_is_bare_ring" s_law_is_bare_ring) (B : Bi mg) (c_law_points : Cal P w K mg base 2 "_law_points" (sp_lpts K)) (c_law_unlike : Cal P w K mg base 1 "_law_unlike" (sp_lunlikeJ K)) (c_law_table : Cal P w K mg base 1 "_law_table" sp_matrix) (c_law_pairs : Cal P w K mg base 1 "_law_pairs" sp_pairs) : Cal P w K mg base 3 "_law_is_bare_ring" (sp_lbare K) := by
  have nd := sc_law_is_bare_ring.nd
  refine A.cal sc_law_is_bare_ring (fun _ _ _ _ _ _ us hl => match us, hl with | [_, _, _], _ => rfl) ?_ fun f cdv A' outer s H vs Q E hr h => ⟨_, (pss_cons (ps_if (PW.pt (pw_or (pt_not (pt_val (pe_cal c_law_points hr (by first | decide | omega) (by rfl) passE (pa_cons (pv 1) (pa_cons (pe_un un_neg pe_int) (pa_cons (pv 0) pa_nil)))))) (pw_or (pt_cmpR op_lt (pe_callB (call_lenK (K := K) rfl) (by rfl) B.len (by decide +kernel) (pa_cons (pv 1) pa_nil)) (pv 2) (nomark _)) (pw_or1 (pt_not (pt_val (pe_cal c_law_unlike hr (by first | decide | omega) (by rfl) passE (pa_cons (pv 1) pa_nil)))))))) (pss_one (ps_ret pe_bl)) pss_nil)
  (pss_cons (ps_set (i := 3) nd rfl (.inl rfl) (pe_cal c_law_table hr (by first | decide | omega) (by rfl) passE (pa_cons (pv 0) pa_nil)))
  (pss_cons (ps_for passOwn rfl (pi_listK (K := K) rfl (pe_cal c_law_pairs hr (by first | decide | omega) (by rfl) passE (pa_cons (pe_callB (call_lenK (K := K) rfl) (by rfl) B.len (by decide +kernel) (pa_cons (pv 1) pa_nil)) pa_nil))) (pg_tupK (K := K) (n := 2) rfl rfl (pgs_cons (pg_name (i := 4) nd rfl (.inl rfl)) (pgs_cons (pg_name (i := 5) nd rfl (.inl rfl)) pgs_nil))) (pss_one (ps_if (pt_cmpR op_ne (pe_ix (ix_listK (K := K) rfl) (pe_ix (ix_listK (K := K) rfl) (pv 3) (pe_ix (ix_tupK (K := K) rfl) (pv 1) (pv 4) (fun _ _ => rfl)) (fun _ _ => rfl)) (pe_ix (ix_tupK (K := K) rfl) (pv 1) (pv 5) (fun _ _ => rfl)) (fun _ _ => rfl)) (pe_or (pe_cmpR op_eq (pv 5) (pe_op op_add (pv 4) pe_int) (nomark _)) (pe_one (pe_and (pe_cmpR op_eq (pv 4) pe_int (nomark _)) (pe_one (pe_cmpR op_eq (pv 5) (pe_op op_sub (pe_callB (call_lenK (K := K) rfl) (by rfl) B.len (by decide +kernel) (pa_cons (pv 1) pa_nil)) pe_int) (nomark _)))))) (nomark _)) (pss_one (ps_ret pe_bl)) pss_nil)))
  (pss_one (ps_ret pe_bl))))), ?_⟩
  · rintro vs H Q E ⟨nv, v, n, ties, d, rfl, _⟩
    rfl
  · obtain ⟨nv, v, n, ties, d, rfl, hN, hg, hn, hd, hl, q⟩ := h
    have hmt : ∀ p ∈ ties, p.1 < n ∧ p.2 < n := fun p hp => ⟨by have := hg.1 p hp; omega, (hg.1 p hp).2⟩
    refine ⟨_, rfl, _, rfl, _, rfl, nv, v, -1, n, ties, d, rfl, hN, hd, _, rfl, ifN (fun c => ?_) (fun c => ?_)⟩
    · rw [show longD n (tieT ties) d = false from lpts_no _ c fun xs h => absurd h (by decide)] at q
      exact q _ (Same.refl H)
    · obtain ⟨xs, rfl, hlt, _, e⟩ := lpts_yes c
      unfold longD at q
      rw [e] at q
      obtain ⟨a, rfl, hs⟩ := dp_ptsT hd
      have lds := hl _ rfl
      rw [List.length_map] at lds
      refine ⟨_, rfl, _, _, rfl, .inr ⟨_, hs, rfl⟩, _, rfl, _, _, rfl, rfl, _, rfl, ifD (fun c2 => ?_) (fun c2 => ?_)⟩
      · rw [List.length_map] at c2
        rw [decide_eq_false (show ¬ 4 ≤ xs.length by omega), Bool.false_and, Bool.and_false] at q
        exact q _ (Same.refl H)
      · rw [List.length_map] at c2
        have h4 : 4 ≤ xs.length := by omega
        rw [decide_eq_true h4, Bool.true_and] at q
        refine ⟨_, rfl, a, xs, rfl, hs, fun H1 s1 => ⟨_, rfl, ifN (fun c3 => ?_) (fun c3 => ?_)⟩⟩
        · rw [c3, Bool.false_and] at q
          exact q _ s1
        · rw [c3, Bool.true_and] at q
          have lx := pts_len (of_decide_eq_true c3) hlt
          refine ⟨_, rfl, nv, n, ties, rfl, hN.keep (sKt s1), by omega, hmt, fun m rows H2 s2 nm _ hM => ?_⟩
          have s12 := s1.trans s2
          have hs2 := sqT_same s12 hs
          refine ⟨_, rfl, _, _, rfl, .inr ⟨_, hs2, rfl⟩, xs.length, by rw [List.length_map]; rfl, by omega, fun p ps H3 s3 np hps prs => ?_⟩
          have hs3 := sqT_same s3 hs2
          refine ⟨p, rfl, ⟨_, SqL.of hps⟩, for_list (K := K) (a := p) (xs := ps) (fun i σ H4 => ∃ v4 v5, σ = [some nv, some (.ref a), some (.int 4), some (.ref m), v4, v5] ∧ H4 = H3 ∧ ∀ p ∈ (allPairs xs.length).take i, (tieT ties (xs.getD p.1 0) (xs.getD p.2 0) == (decide (p.2 = p.1 + 1) || (decide (p.1 = 0) && decide (p.2 = xs.length - 1)))) = true) ⟨none, none, rfl, rfl, fun p hp => nomatch hp⟩ (fun i σ H4 _ ⟨_, _, _, e, _⟩ => by rw [e]; exact SqL.of hps) ?_ ?_⟩
          · rintro i v σ H4 hv ⟨v4, v5, rfl, rfl, ok⟩
            obtain ⟨p, hp, tp, rfl, htp⟩ := pAtL prs hv
            obtain ⟨hij, hj⟩ := mem_allPairs.mp (List.mem_of_getElem? hp)
            refine ⟨tp, _, rfl, SqT.of htp, rfl, _, _, rfl, _, _, rfl, rfl, ?_⟩
            refine rdMx (hM.same s3) rfl (hlt _ (getD_mem (by omega))) (hlt _ (getD_mem hj)) (fun Q h => ⟨_, rfl, _, rfl, _, _, _, _, rfl, rfl, hs3, atI_getD (by omega), h⟩) (fun Q h => ⟨_, rfl, _, rfl, _, _, _, _, rfl, rfl, hs3, atI_getD hj, h⟩) ?_
            have nxt : (tieT ties (xs.getD p.1 0) (xs.getD p.2 0) == (decide (p.2 = p.1 + 1) || (decide (p.1 = 0) && decide (p.2 = xs.length - 1)))) = true → ∃ v4 v5, [some nv, some (V.ref a), some (.int 4), some (.ref m), some (pI p.1), some (pI p.2)] = [some nv, some (V.ref a), some (.int 4), some (.ref m), v4, v5] ∧ H4 = H4 ∧ ∀ p ∈ (allPairs xs.length).take (i + 1), (tieT ties (xs.getD p.1 0) (xs.getD p.2 0) == (decide (p.2 = p.1 + 1) || (decide (p.1 = 0) && decide (p.2 = xs.length - 1)))) = true := fun h => by
              refine ⟨_, _, rfl, rfl, fun z hz => ?_⟩
              rw [List.take_add_one, hp] at hz
              rcases List.mem_append.mp hz with hz | hz
              · exact ok z hz
              · rw [List.mem_singleton.mp hz]
                exact h
            have bad : (tieT ties (xs.getD p.1 0) (xs.getD p.2 0) == (decide (p.2 = p.1 + 1) || (decide (p.1 = 0) && decide (p.2 = xs.length - 1)))) = false → Q (.bl false) H4 := fun h => by
              have e : loB (tieT ties) xs = false := Bool.eq_false_iff.mpr fun g => by
                have := List.all_eq_true.mp g p (List.mem_of_getElem? hp)
                rw [h] at this
                cases this
              rw [e] at q
              exact q _ (s12.trans s3)
            have fin : ∀ (b : Bool), b = (decide (p.2 = p.1 + 1) || (decide (p.1 = 0) && decide (p.2 = xs.length - 1))) → ∀ {A B : Prop}, (tieT ties (xs.getD p.1 0) (xs.getD p.2 0) ≠ b → A) → (tieT ties (xs.getD p.1 0) (xs.getD p.2 0) = b → B) → if (!decide (V.bl (tieT ties (xs.getD p.1 0) (xs.getD p.2 0)) = V.bl b)) = true then A else B := fun b _ {A B} f g => ifND (fun c => f fun e => c (by rw [e])) (fun c => g (V.bl.inj c))
            refine ⟨_, rfl, _, rfl, _, _, rfl, rfl, rfl, _, rfl, ifI (fun c5 => ?_) (fun c5 => ?_)⟩
            · have e : true = (decide (p.2 = p.1 + 1) || (decide (p.1 = 0) && decide (p.2 = xs.length - 1))) := by rw [decide_eq_true (show p.2 = p.1 + 1 by omega), Bool.true_or]
              refine ⟨rfl, _, rfl, fin true e (fun c6 => bad ?_) (fun c6 => nxt ?_)⟩
              · rw [← e]; exact beq_false_of_ne c6
              · rw [← e, c6]; rfl
            · refine ⟨_, rfl, rfl, _, rfl, ifI (fun c6 => ?_) (fun c6 => ?_)⟩
              · refine ⟨_, rfl, _, rfl, _, _, rfl, .inr ⟨_, hs3, rfl⟩, _, _, rfl, rfl, rfl, rfl, _, rfl, ?_⟩
                have e2 : decide (pI p.2 = V.int ((((xs.map pI).length : Nat) : Int) - 1)) = (decide (p.2 = p.1 + 1) || (decide (p.1 = 0) && decide (p.2 = xs.length - 1))) := by
                  rw [decide_eq_false (show ¬ p.2 = p.1 + 1 by omega), Bool.false_or, decide_eq_true (show p.1 = 0 by omega), Bool.true_and, List.length_map]
                  exact decide_eq_decide.mpr ⟨fun h => by have := V.int.inj h; omega, fun h => by rw [h]; exact congrArg V.int (by omega)⟩
                refine fin _ e2 (fun c7 => bad ?_) (fun c7 => nxt ?_)
                · rw [← e2]; exact beq_false_of_ne c7
                · rw [← e2, c7]; exact beq_self_eq_true _
              · have e : false = (decide (p.2 = p.1 + 1) || (decide (p.1 = 0) && decide (p.2 = xs.length - 1))) := by rw [decide_eq_false (show ¬ p.2 = p.1 + 1 by omega), Bool.false_or, decide_eq_false (show ¬ p.1 = 0 by omega), Bool.false_and]
                refine ⟨rfl, _, rfl, fin false e (fun c7 => bad ?_) (fun c7 => nxt ?_)⟩
                · rw [← e]; exact beq_false_of_ne c7
                · rw [← e, c7]; rfl
          · rintro σ H4 ⟨v4, v5, rfl, rfl, ok⟩
            rw [prs.length, List.take_length] at ok
            rw [show loB (tieT ties) xs = true from List.all_eq_true.mpr fun p hp => ok p hp] at q
            exact q _ (s12.trans s3)
end
end Ns
/-! Own layer: the law's looks at stretches, of any data. -/
--CUT _law_is_bent
namespace Ns
open PySem PySem.Spec PyProof.Rows L2
local macro_rules | `(tactic| walk_at "look") => `(tactic| first | assumption | exact upd_same | (refine (upd_ne (by first | assumption | exact Ne.symm (by assumption))).trans ?_; walk_at "look"))
local macro_rules | `(tactic| walk_at "cond") => `(tactic| first | assumption | omega | (dsimp only; omega) | exact ⟨by omega, by omega⟩ | decide | exact ⟨by decide, by decide, by decide⟩ | exact .inr ⟨by decide, by decide⟩ | exact .inl ⟨by decide, by decide⟩ | exact .inr ⟨by omega, by omega⟩ | exact .inl ⟨by omega, by omega⟩)
local macro_rules | `(tactic| walk_at "rd1") => `(tactic| first
  | refine ⟨_, rfl, ?_⟩
  | refine ⟨_, _, rfl, rfl, ?_⟩
  | refine ⟨rfl, ?_⟩
  | refine ⟨_, _, rfl, rfl, (by walk_at "cond"), ?_⟩
  | refine ⟨_, _, _, _, rfl, rfl, SqL.of (by walk_at "look"), rfl, ?_⟩
  | refine ⟨_, _, _, _, rfl, rfl, SqT.of (by walk_at "look"), rfl, ?_⟩
  | refine ⟨_, _, _, _, rfl, rfl, (by walk_at "look"), rfl, ?_⟩
  | refine .inl ⟨_, rfl, ?_⟩
  | refine ⟨.inl ⟨rfl, _, SqL.of (by walk_at "look")⟩, ?_⟩
  | refine ⟨_, _, rfl, ⟨by omega, by omega, by omega, by omega⟩, ?_⟩
  | refine ⟨_, rfl, (by omega), (by omega), ?_⟩
  | refine And.intro (by walk_at "cond") ?_)
local macro_rules | `(tactic| walk_at "rd") => `(tactic| repeat (walk_at "rd1"))
abbrev N_law_is_way : List Str := ["net", "way", "a", "b", "c", "tied", "k", "point"]
theorem sc_law_is_way : FnScope N_law_is_way ["net", "way", "a", "b", "c"] (defScope s_law_is_way) := ⟨rfl, rfl, rfl, by decide +kernel, rfl, by decide +kernel, by decide +kernel⟩
abbrev N_law_is_bent : List Str := ["net", "place", "a", "b", "c"]
theorem sc_law_is_bent : FnScope N_law_is_bent ["net", "place"] (defScope s_law_is_bent) := ⟨rfl, rfl, rfl, by decide +kernel, rfl, by decide +kernel, by decide +kernel⟩
section
variable {P : Program} {w : World} {K : PySem.W.Frag} {mg : Str → Option Value} {base : Heap}
def sp_lway (K : PySem.W.Frag) : Sp := fun vs H Q _ => ∃ (nv v : V) (n a b c : Nat) (ties : List (Nat × Nat)) (d : PyData), vs = [nv, v, pI a, pI b, pI c] ∧ Net H nv n ties ∧ Good n ties ∧ n ≤ 40 ∧ c < n ∧ Dp K H v d ∧ lenD d ∧ ∀ (ans : Bool) H', Same H H' → (ans = true ↔ ∃ W, d = rowD W ∧ WayR n (tieT ties) a b c W) → Q (.bl ans) H'
theorem cal_lway (A : At K mg "_law_is_way" s_law_is_way) (B : Bi mg) (c_law_points : Cal P w K mg base 2 "_law_points" (sp_lpts K)) (c_law_unlike : Cal P w K mg base 1 "_law_unlike" (sp_lunlikeJ K)) (c_law_table : Cal P w K mg base 1 "_law_table" sp_matrix) : Cal P w K mg base 3 "_law_is_way" (sp_lway K) := by
  have nd := sc_law_is_way.nd
  refine A.cal sc_law_is_way (fun _ _ _ _ _ _ us hl => match us, hl with | [_, _, _, _, _], _ => rfl) ?_ fun f cdv A' outer s H vs Q E hr h => ⟨_, (pss_cons (ps_if (PW.pt (pw_or (pt_not (pt_val (pe_cal c_law_points hr (by first | decide | omega) (by rfl) passE (pa_cons (pv 1) (pa_cons (pe_un un_neg pe_int) (pa_cons (pv 0) pa_nil)))))) (pw_or (pt_cmpR op_eq (pe_callB (call_lenK (K := K) rfl) (by rfl) B.len (by decide +kernel) (pa_cons (pv 1) pa_nil)) pe_int (nomark _)) (pw_or (pt_not (pt_val (pe_cal c_law_unlike hr (by first | decide | omega) (by rfl) passE (pa_cons (pv 1) pa_nil)))) (pw_or (pt_cmpR op_ne (pe_ix (ix_tupK (K := K) rfl) (pv 1) pe_int (fun _ _ => rfl)) (pv 2) (nomark _)) (pw_or1 (pt_cmpR op_ne (pe_ix (ix_tupK (K := K) rfl) (pv 1) (pe_un un_neg pe_int) (fun _ _ => rfl)) (pv 3) (nomark _)))))))) (pss_one (ps_ret pe_bl)) pss_nil)
  (pss_cons (ps_set (i := 5) nd rfl (.inl rfl) (pe_cal c_law_table hr (by first | decide | omega) (by rfl) passE (pa_cons (pv 0) pa_nil)))
  (pss_cons (ps_for passOwn rfl (pi_enumTK (K := K) rfl (by rfl) B.enumerate (pa_cons (pv 1) pa_nil)) (pg_tupK (K := K) (n := 2) rfl rfl (pgs_cons (pg_name (i := 6) nd rfl (.inl rfl)) (pgs_cons (pg_name (i := 7) nd rfl (.inl rfl)) pgs_nil))) (pss_one (ps_if (PW.pt (pw_or (pt_cmpR op_eq (pv 7) (pv 4) (nomark _)) (pw_or (pt_val (pe_ix (ix_listK (K := K) rfl) (pe_ix (ix_listK (K := K) rfl) (pv 5) (pv 7) (fun _ _ => rfl)) (pv 4) (fun _ _ => rfl))) (pw_or1 (PW.pt (pw_and (pt_cmpR op_gt (pv 6) pe_int (nomark _)) (pw_and1 (pt_not (pt_val (pe_ix (ix_listK (K := K) rfl) (pe_ix (ix_listK (K := K) rfl) (pv 5) (pe_ix (ix_tupK (K := K) rfl) (pv 1) (pe_op op_sub (pv 6) pe_int) (fun _ _ => rfl)) (fun _ _ => rfl)) (pv 7) (fun _ _ => rfl))))))))))) (pss_one (ps_ret pe_bl)) pss_nil)))
  (pss_one (ps_ret pe_bl))))), ?_⟩
  · rintro vs H Q E ⟨nv, v, n, a, b, c, ties, d, rfl, _⟩
    rfl
  · obtain ⟨nv, v, n, a, b, c, ties, d, rfl, hN, hg, hn, hc, hd, hl, q⟩ := h
    refine ⟨_, rfl, _, rfl, _, rfl, nv, v, -1, n, ties, d, rfl, hN, hd, _, rfl, ifN (fun c0 => ?_) (fun c0 => ?_)⟩
    · refine q false _ (Same.refl H) (iff_of_false Bool.false_ne_true ?_)
      rintro ⟨W, rfl, h⟩
      have := row_pts h.lt h.nd
      unfold lPtsD at c0
      unfold rowD at c0
      dsimp only at c0
      rw [ptsOf_castJ h.lt] at c0
      cases c0
    obtain ⟨W, rfl, hlt, _, _⟩ := lpts_yes c0
    obtain ⟨p, rfl, hs⟩ := dp_ptsT hd
    have q2 : ∀ (ans : Bool) H', Same H H' → (ans = true ↔ WayR n (tieT ties) a b c W) → Q (.bl ans) H' := fun ans H' s' h => q ans H' s' (h.trans ⟨fun h => ⟨W, rfl, h⟩, fun ⟨W', e, h⟩ => by rw [rowD_inj (W := W) (W' := W') e]; exact h⟩)
    have no : ∀ H', Same H H' → ¬ WayR n (tieT ties) a b c W → Q (.bl false) H' := fun H' s' h => q2 false H' s' (iff_of_false Bool.false_ne_true h)
    have lm : (W.map pI).length = W.length := List.length_map _
    refine ⟨_, rfl, _, _, rfl, .inr ⟨_, hs, rfl⟩, rfl, _, rfl, ifI (fun c1 => no _ (Same.refl H) fun h => ?_) (fun c1 => ?_)⟩
    · have : W.length = 0 := by omega
      rw [List.length_eq_zero_iff.mp this] at h
      cases h.first
    have h0 : 0 < W.length := by omega
    refine ⟨_, rfl, p, W, rfl, hs, fun H1 s1 => ⟨_, rfl, ifN (fun c2 => no _ s1 fun h => ?_) (fun c2 => ?_)⟩⟩
    · rw [decide_eq_true h.nd] at c2
      cases c2
    have ndW := of_decide_eq_true c2
    have lW : W.length ≤ n := pts_len ndW hlt
    have hs1 := sqT_same s1 hs
    refine ⟨_, rfl, _, _, _, _, rfl, rfl, hs1, atI_getD (k := 0) h0, _, rfl, rfl, _, rfl, ifNI (fun c3 => no _ s1 fun h => ?_) (fun c3 => ?_)⟩
    · have := h.first
      rw [List.getD_eq_getElem?_getD, this] at c3
      exact c3 rfl
    have e0 : W[0]? = some a := by
      rw [List.getD_eq_getElem?_getD, List.getElem?_eq_getElem h0] at c3
      rw [List.getElem?_eq_getElem h0]
      have c3 : ((W[0] : Nat) : Int) = a := c3
      congr 1
      omega
    obtain ⟨z, hz⟩ : ∃ z, W.getLast? = some z := by
      rw [List.getLast?_eq_getElem?, List.getElem?_eq_getElem (show W.length - 1 < W.length by omega)]
      exact ⟨_, rfl⟩
    refine ⟨_, rfl, _, rfl, _, _, _, _, rfl, rfl, hs1, atI_end (x := pI z) (by rw [List.getLast?_map, hz]; rfl), _, rfl, rfl, _, rfl, ifNI (fun c4 => no _ s1 fun h => ?_) (fun c4 => ?_)⟩
    · have := h.last
      rw [hz] at this
      exact c4 (congrArg (fun u : Option Nat => ((u.getD 0 : Nat) : Int)) this)
    have ez : W.getLast? = some b := by
      rw [hz]
      have c4 : ((z : Nat) : Int) = b := c4
      congr 1
      omega
    have hmt : ∀ p ∈ ties, p.1 < n ∧ p.2 < n := fun p hp => ⟨by have := hg.1 p hp; omega, (hg.1 p hp).2⟩
    refine ⟨_, rfl, nv, n, ties, rfl, hN.keep (sKt s1), by omega, hmt, fun m rows H2 s2 nm _ hM => ?_⟩
    have s12 := s1.trans s2
    have hs2 := sqT_same s12 hs
    refine ⟨_, rfl, p, _, rfl, hs2, ?_⟩
    refine for_it walk_enumT (fun i σ H3 => ∃ (v6 v7 : Option V), σ = [some nv, some (.ref p), some (pI a), some (pI b), some (pI c), some (.ref m), v6, v7] ∧ Same H2 H3 ∧ (∀ x ∈ W.take i, x ≠ c ∧ tieT ties x c = false) ∧ ∀ k x y, k + 1 < i → W[k]? = some x → W[k + 1]? = some y → tieT ties x y = true) ⟨none, none, rfl, Same.refl _, (fun x h => nomatch h), fun k x y h => absurd h (by omega)⟩ (fun i σ H3 _ ⟨_, _, _, s3, _⟩ => sqT_same s3 hs2) ?_ ?_
    · rintro i xv σ H3 H3' hi ⟨v6, v7, rfl, s3, ok1, ok2⟩ ⟨tt, e1, e2, rfl, nt, rfl, h3, h4⟩
      have e3 : V.int (i : Nat) = e1 := Option.some.inj h3
      subst e3
      have h4 : (W.map pI)[i]? = some e2 := h4
      rw [List.getElem?_map] at h4
      obtain ⟨y, hy, rfl⟩ := Option.map_eq_some_iff.mp h4
      have hyn := hlt y (List.mem_of_getElem? hy)
      have x4 := same_laid (o := .tup [.int (i : Nat), pI y]) nt
      have s4 := s3.trans x4
      refine ⟨tt, _, rfl, SqT.of upd_same, rfl, _, _, rfl, _, _, rfl, rfl, ?_⟩
      generalize (upd H3 tt (.tup [.int (i : Nat), pI y])) = H4 at s4 ⊢
      have hM4 := hM.same s4
      have s14 := s12.trans s4
      have bad : (y = c ∨ tieT ties y c = true) → Q (.bl false) H4 := fun k => no _ s14 fun h => by
        obtain ⟨h1, h2⟩ := h.off y (List.mem_of_getElem? hy)
        rcases k with k | k
        · exact h1 k
        · rw [h2] at k
          cases k
      refine ⟨_, rfl, _, rfl, rfl, _, rfl, ifI (fun c5 => bad (.inl (by omega))) (fun c5 => ?_)⟩
      have c5 : y ≠ c := fun e => c5 (by rw [e])
      refine rdM hM4 rfl rfl rfl hyn hc ⟨_, rfl, ifB (fun c6 => bad (.inr c6)) (fun c6 => ?_)⟩
      have etk : W.take (i + 1) = W.take i ++ [y] := by rw [List.take_add_one, hy]; rfl
      have nxt : (∀ x, 0 < i → W[i - 1]? = some x → tieT ties x y = true) → ∃ v6 v7, [some nv, some (V.ref p), some (pI a), some (pI b), some (pI c), some (.ref m), some (V.int (i : Nat)), some (pI y)] = [some nv, some (V.ref p), some (pI a), some (pI b), some (pI c), some (.ref m), v6, v7] ∧ Same H2 H4 ∧ (∀ x ∈ W.take (i + 1), x ≠ c ∧ tieT ties x c = false) ∧ ∀ k x y, k + 1 < i + 1 → W[k]? = some x → W[k + 1]? = some y → tieT ties x y = true := fun hx => by
        refine ⟨_, _, rfl, s4, fun x hx' => ?_, fun k x z hk h1 h2 => ?_⟩
        · rw [etk] at hx'
          rcases List.mem_append.mp hx' with h | h
          · exact ok1 x h
          · rw [List.mem_singleton.mp h]
            exact ⟨c5, c6⟩
        · by_cases e : k + 1 = i
          · rw [e, hy] at h2
            rw [← Option.some.inj h2]
            exact hx x (by omega) (by rw [show i - 1 = k by omega]; exact h1)
          · exact ok2 k x z (by omega) h1 h2
      refine ⟨_, rfl, _, _, rfl, rfl, _, rfl, ifD (fun c7 => ?_) (fun c7 => iteF (nxt fun x h => absurd (by omega) c7))⟩
      have c7 : 0 < i := by
        have c7 : (0 : Int) < (i : Nat) := c7
        omega
      have hi2 : i - 1 < W.length := by
        have := (List.getElem?_eq_some_iff.mp hy).1
        omega
      have hs4 := sqT_same s4 hs2
      refine rdMx hM4 rfl (hlt _ (getD_mem hi2)) hyn (fun Q h => ⟨_, rfl, _, rfl, _, _, rfl, rfl, _, _, _, _, rfl, rfl, hs4, ?_, h⟩) (fun Q h => ⟨_, rfl, h⟩) ?_
      · rw [show ((i : Nat) : Int) - 1 = ((i - 1 : Nat) : Int) by omega]
        exact atI_getD hi2
      have eg : W[i - 1]? = some (W.getD (i - 1) 0) := by rw [List.getD_eq_getElem?_getD, List.getElem?_eq_getElem hi2]; rfl
      refine ⟨_, rfl, ifN (fun c8 => no _ s14 fun h => ?_) (fun c8 => nxt fun x _ hx => ?_)⟩
      · have := h.tie (i - 1) _ y eg (by rw [show i - 1 + 1 = i by omega]; exact hy)
        rw [c8] at this
        cases this
      · rw [eg] at hx
        rw [← Option.some.inj hx]
        exact c8
    · rintro σ H3 ⟨v6, v7, rfl, s3, ok1, ok2⟩
      rw [lm] at ok2
      rw [lm, List.take_length] at ok1
      exact q2 true _ (s12.trans s3) (iff_of_true rfl ⟨ndW, hlt, e0, ez, fun k x y h1 h2 => ok2 k x y (List.getElem?_eq_some_iff.mp h2).1 h1 h2, ok1⟩)
theorem three_parts {n : Nat} {T : Tm} {x y z : Nat} {e4 e5 e6 : PyData} (hx : x < n) (hy : y < n) (hz : z < n) (ndx : [x, y, z].Nodup) : ThreeD n T (.tuple [.str "three", .int (x : Int), .int (y : Int), .int (z : Int), e4, e5, e6]) ↔ (∃ W, e4 = rowD W ∧ WayR n T x y z W) ∧ (∃ W, e5 = rowD W ∧ WayR n T x z y W) ∧ ∃ W, e6 = rowD W ∧ WayR n T y z x W := by
  constructor
  · rintro ⟨a, b, c', W1, W2, W3, he, _, _, _, _, _, _, w1, w2, w3⟩
    have := PyData.tuple.inj he
    simp only [List.cons.injEq, and_true, true_and, PyData.int.injEq] at this
    obtain ⟨ea, eb, ec, f1, f2, f3⟩ := this
    have ea : x = a := by omega
    have eb : y = b := by omega
    have ec : z = c' := by omega
    subst ea
    subst eb
    subst ec
    exact ⟨⟨W1, f1, w1⟩, ⟨W2, f2, w2⟩, ⟨W3, f3, w3⟩⟩
  · rintro ⟨⟨W1, rfl, w1⟩, ⟨W2, rfl, w2⟩, ⟨W3, rfl, w3⟩⟩
    simp only [List.nodup_cons, List.mem_cons, List.not_mem_nil, or_false, not_or] at ndx
    exact ⟨x, y, z, W1, W2, W3, rfl, hx, hy, hz, ndx.1.1, ndx.1.2, ndx.2.1, w1, w2, w3⟩
def sp_lbent (K : PySem.W.Frag) : Sp := fun vs H Q _ => ∃ (nv v : V) (n : Nat) (ties : List (Nat × Nat)) (d : PyData), vs = [nv, v] ∧ Net H nv n ties ∧ Good n ties ∧ n ≤ 40 ∧ Dp K H v d ∧ lenDs d ∧ ∀ (ans : Bool) H', Same H H' → (ans = true ↔ BentD n (tieT ties) d) → Q (.bl ans) H'
theorem cal_lbent (A : At K mg "_law_is_bent" s_law_is_bent) (B : Bi mg) (c_law_points : Cal P w K mg base 2 "_law_points" (sp_lpts K)) (c_law_unlike : Cal P w K mg base 1 "_law_unlike" (sp_lunlikeJ K)) (c_law_is_bare_ring : Cal P w K mg base 3 "_law_is_bare_ring" (sp_lbare K)) (c_law_is_way : Cal P w K mg base 3 "_law_is_way" (sp_lway K)) : Cal P w K mg base 4 "_law_is_bent" (sp_lbent K) := by
  have nd := sc_law_is_bent.nd
  refine A.cal sc_law_is_bent (fun _ _ _ _ _ _ us hl => match us, hl with | [_, _], _ => rfl) ?_ fun f cdv A' outer s H vs Q E hr h => ⟨_, (C8.pss_cut (ps_if (PW.pt (pw_or (pt_not (pt_val (pe_callB (call_isiK' (K := K) rfl) (by rfl) B.isinstance (by decide +kernel) (pa_cons (pv 1) (pa_cons (pe_bltn (v := .ty "tuple") (u := .type "tuple") (by rfl) B.tuple (by decide +kernel) rfl) pa_nil))))) (pw_or (pt_cmpR op_eq (pe_callB (call_lenK (K := K) rfl) (by rfl) B.len (by decide +kernel) (pa_cons (pv 1) pa_nil)) pe_int (nomark _)) (pw_or1 (pt_not (pt_val (pe_callB (call_isiK' (K := K) rfl) (by rfl) B.isinstance (by decide +kernel) (pa_cons (pe_ix (ix_tupK (K := K) rfl) (pv 1) pe_int (fun _ _ => rfl)) (pa_cons (pe_bltn (v := .ty "str") (u := .type "str") (by rfl) B.str_ (by decide +kernel) rfl) pa_nil))))))))) (pss_one (ps_ret pe_bl)) pss_nil)
  (C8.pss_cut (ps_if (pt_cmpR op_eq (pe_ix (ix_tupK (K := K) rfl) (pv 1) pe_int (fun _ _ => rfl)) pe_str (nomark _)) (pss_one (ps_ret (pe_and (pe_cmpR op_eq (pe_callB (call_lenK (K := K) rfl) (by rfl) B.len (by decide +kernel) (pa_cons (pv 1) pa_nil)) pe_int (nomark _)) (pe_one (pe_cal c_law_is_bare_ring hr (by first | decide | omega) (by rfl) passE (pa_cons (pv 0) (pa_cons (pe_ix (ix_tupK (K := K) rfl) (pv 1) pe_int (fun _ _ => rfl)) (pa_cons pe_int pa_nil)))))))) pss_nil)
  (C8.pss_cut (ps_if (PW.pt (pw_or (pt_cmpR op_ne (pe_ix (ix_tupK (K := K) rfl) (pv 1) pe_int (fun _ _ => rfl)) pe_str (nomark _)) (pw_or (pt_cmpR op_ne (pe_callB (call_lenK (K := K) rfl) (by rfl) B.len (by decide +kernel) (pa_cons (pv 1) pa_nil)) pe_int (nomark _)) (pw_or (pt_not (pt_val (pe_cal c_law_points hr (by first | decide | omega) (by rfl) passE (pa_cons (pe_slice (sl_tupAK (K := K) rfl) (pv 1) (po_some pe_int) (po_some pe_int)) (pa_cons pe_int (pa_cons (pv 0) pa_nil)))))) (pw_or1 (pt_not (pt_val (pe_cal c_law_unlike hr (by first | decide | omega) (by rfl) passE (pa_cons (pe_slice (sl_tupAK (K := K) rfl) (pv 1) (po_some pe_int) (po_some pe_int)) pa_nil))))))))) (pss_one (ps_ret pe_bl)) pss_nil)
  (pss_cons (ps_asg (pe_slice (sl_tupAK (K := K) rfl) (pv 1) (po_some pe_int) (po_some pe_int)) (pg_tupK (K := K) (n := 3) rfl rfl (pgs_cons (pg_name (i := 2) nd rfl (.inl rfl)) (pgs_cons (pg_name (i := 3) nd rfl (.inl rfl)) (pgs_cons (pg_name (i := 4) nd rfl (.inl rfl)) pgs_nil)))))
  (pss_one (ps_ret (pe_and (pe_cal c_law_is_way hr (by first | decide | omega) (by rfl) passE (pa_cons (pv 0) (pa_cons (pe_ix (ix_tupK (K := K) rfl) (pv 1) pe_int (fun _ _ => rfl)) (pa_cons (pv 2) (pa_cons (pv 3) (pa_cons (pv 4) pa_nil)))))) (pe_and (pe_cal c_law_is_way hr (by first | decide | omega) (by rfl) passE (pa_cons (pv 0) (pa_cons (pe_ix (ix_tupK (K := K) rfl) (pv 1) pe_int (fun _ _ => rfl)) (pa_cons (pv 2) (pa_cons (pv 4) (pa_cons (pv 3) pa_nil)))))) (pe_one (pe_cal c_law_is_way hr (by first | decide | omega) (by rfl) passE (pa_cons (pv 0) (pa_cons (pe_ix (ix_tupK (K := K) rfl) (pv 1) pe_int (fun _ _ => rfl)) (pa_cons (pv 3) (pa_cons (pv 4) (pa_cons (pv 2) pa_nil))))))))))))))), ?_⟩
  · rintro vs H Q E ⟨nv, v, n, ties, d, rfl, _⟩
    rfl
  · obtain ⟨nv, v, n, ties, d, rfl, hN, hg, hn, hd, ⟨hl, hl2⟩, q⟩ := h
    have no : ∀ H', Same H H' → ¬ BentD n (tieT ties) d → Q (.bl false) H' := fun H' s' h => q false H' s' (iff_of_false Bool.false_ne_true h)
    refine cut_midJ (fun σ' H' => σ' = [some nv, some v, none, none, none] ∧ H' = H ∧ ∃ (p : Addr) (x : Str) (us : List V) (es : List PyData), v = .ref p ∧ d = .tuple (.str x :: es) ∧ SqT K H p (.str x :: us) ∧ DpAll K H us es) ?_ ?_
    · refine ⟨_, rfl, _, .ty "tuple", .type (tyName _), .type "tuple", _, rfl, .ty _, tyX_of hd, kit_ty (kit_isi _ "tuple" (by simp)), ?_⟩
      rw [isi_tuple]
      refine ⟨_, rfl, ifN (fun c => no _ (Same.refl H) ?_) (fun c => ?_)⟩
      · rintro (⟨e, rfl, _⟩ | ⟨a, b, c', W1, W2, W3, rfl, _⟩) <;> cases c
      cases hd with
      | tup hs ha =>
        rename_i p us es
        refine ⟨_, rfl, _, _, rfl, .inr ⟨_, hs, rfl⟩, rfl, _, rfl, ifI (fun c1 => no _ (Same.refl H) ?_) (fun c1 => ?_)⟩
        · have lu := DpAll.len ha
          have : es.length = 0 := by omega
          rw [List.length_eq_zero_iff.mp this]
          rintro (⟨e, h, _⟩ | ⟨a, b, c', W1, W2, W3, h, _⟩) <;> cases h
        cases ha with
        | nil => exact absurd rfl c1
        | cons h0 ha =>
          rename_i v0 us e0 es
          refine ⟨_, rfl, _, _, _, _, rfl, rfl, hs, atI_nat (xs := v0 :: us) (j := 0) rfl, _, .ty "str", .type (tyName _), .type "str", _, rfl, .ty _, tyX_of h0, kit_ty (kit_isi _ "str" (by simp)), ?_⟩
          rw [isi_str]
          refine ⟨_, rfl, ifN (fun c2 => no _ (Same.refl H) ?_) (fun c2 => ?_)⟩
          · rintro (⟨e, h, _⟩ | ⟨a, b, c', W1, W2, W3, h, _⟩)
            · have := PyData.tuple.inj h
              simp only [List.cons.injEq] at this
              rw [this.1] at c2
              cases c2
            · have := PyData.tuple.inj h
              simp only [List.cons.injEq] at this
              rw [this.1] at c2
              cases c2
          · cases h0 with
            | str x => exact ⟨rfl, rfl, p, x, us, es, rfl, rfl, hs, ha⟩
            | _ => cases c2
      | _ => cases c
    rintro σ' H' ⟨rfl, rfl, p, x, us, es, rfl, rfl, hs, ha⟩
    have lu := DpAll.len ha
    have l1 : ((V.str x :: us).length : Int) = es.length + 1 := by rw [List.length_cons, lu]; rfl
    refine cut_midJ (fun σ' H2 => σ' = [some nv, some (.ref p), none, none, none] ∧ H2 = H' ∧ x ≠ "ring") ?_ ?_
    · refine ⟨_, rfl, _, _, _, _, rfl, rfl, hs, atI_nat (xs := V.str x :: us) (j := 0) rfl, rfl, _, rfl, ifD (fun c3 => ?_) (fun c3 => ⟨rfl, rfl, fun e => c3 (by rw [e])⟩)⟩
      have c3 := V.str.inj c3
      subst c3
      refine ⟨_, rfl, _, _, rfl, .inr ⟨_, hs, rfl⟩, rfl, _, rfl, ifI (fun c4 => ?_) (fun c4 => no _ (Same.refl _) ?_)⟩
      · have le : es.length = 1 := by
          have : ((V.str "ring" :: us).length : Int) = 2 := c4
          omega
        obtain ⟨e1, rfl⟩ : ∃ e1, es = [e1] := by
          match es, le with
          | [e1], _ => exact ⟨e1, rfl⟩
        cases ha with
        | cons h1 ha =>
          cases ha
          rename_i v1
          refine ⟨_, rfl, _, rfl, _, _, _, _, rfl, rfl, hs, rfl, nv, v1, n, ties, e1, rfl, hN, hg, hn, h1, hl2 _ _ rfl (by simp), fun H1 s1 => q _ _ s1 ?_⟩
          constructor
          · exact fun h => .inl ⟨_, rfl, h⟩
          · rintro (⟨e, he, h⟩ | ⟨a, b, c, W1, W2, W3, he, _⟩)
            · have := PyData.tuple.inj he
              simp only [List.cons.injEq, and_true, true_and] at this
              rw [this]
              exact h
            · have := congrArg List.length (PyData.tuple.inj he)
              simp at this
      · rintro (⟨e, he, h⟩ | ⟨a, b, c, W1, W2, W3, he, _⟩)
        · have := congrArg List.length (PyData.tuple.inj he)
          simp at this
          exact c4 (by omega)
        · have := PyData.tuple.inj he
          simp only [List.cons.injEq, PyData.str.injEq] at this
          exact absurd this.1 (by decide)
    rintro σ' H2 ⟨rfl, rfl, nr⟩
    have no3 : ∀ H3, Same H2 H3 → ¬ ThreeD n (tieT ties) (.tuple (.str x :: es)) → Q (.bl false) H3 := fun H3 s3 h => no H3 s3 fun k => k.elim (fun ⟨e, he, _⟩ => nr (by
      have := PyData.tuple.inj he
      simp only [List.cons.injEq, PyData.str.injEq] at this
      exact this.1)) h
    have eq3 : BentD n (tieT ties) (.tuple (.str x :: es)) ↔ ThreeD n (tieT ties) (.tuple (.str x :: es)) := ⟨fun k => k.elim (fun ⟨e, he, _⟩ => absurd (by
      have := PyData.tuple.inj he
      simp only [List.cons.injEq, PyData.str.injEq] at this
      exact this.1) nr) id, .inr⟩
    refine cut_midJ (fun σ' H3 => σ' = [some nv, some (.ref p), none, none, none] ∧ Same H2 H3 ∧ x = "three" ∧ ∃ (x y z : Nat) (e4 e5 e6 : PyData), es = [.int (x : Int), .int (y : Int), .int (z : Int), e4, e5, e6] ∧ x < n ∧ y < n ∧ z < n ∧ [x, y, z].Nodup) ?_ ?_
    · refine ⟨_, rfl, _, _, _, _, rfl, rfl, hs, atI_nat (xs := V.str x :: us) (j := 0) rfl, rfl, _, rfl, ifND (fun c3 => no3 _ (Same.refl _) ?_) (fun c3 => ?_)⟩
      · rintro ⟨a, b, c', W1, W2, W3, he, _⟩
        have := PyData.tuple.inj he
        simp only [List.cons.injEq, PyData.str.injEq] at this
        exact c3 (by rw [this.1])
      have c3 := V.str.inj c3
      subst c3
      refine ⟨_, rfl, _, _, rfl, .inr ⟨_, hs, rfl⟩, rfl, _, rfl, ifNI (fun c4 => no3 _ (Same.refl _) ?_) (fun c4 => ?_)⟩
      · rintro ⟨a, b, c', W1, W2, W3, he, _⟩
        have := congrArg List.length (PyData.tuple.inj he)
        simp at this
        exact c4 (by omega)
      have le : es.length = 6 := by
        have : ((V.str "three" :: us).length : Int) = 7 := c4
        omega
      obtain ⟨e1, e2, e3, e4, e5, e6, rfl⟩ : ∃ e1 e2 e3 e4 e5 e6, es = [e1, e2, e3, e4, e5, e6] := by
        match es, le with
        | [e1, e2, e3, e4, e5, e6], _ => exact ⟨e1, e2, e3, e4, e5, e6, rfl⟩
      cases ha with
      | cons h1 ha =>
        cases ha with
        | cons h2 ha =>
          cases ha with
          | cons h3 ha =>
            rename_i v1 v2 v3 us3
            have e : cutV (V.str "three" :: v1 :: v2 :: v3 :: us3) (some (1 : Int)) (some (4 : Int)) = [v1, v2, v3] := cut3 _ _ _ _ _
            refine ⟨_, rfl, _, rfl, _, rfl, ?_⟩
            refine slQT hs fun p1 H3 s3 hp => ?_
            rw [e] at hp
            have hdr : Dp K H3 (.ref p1) (.tuple [e1, e2, e3]) := .tup hp (.cons (Dp.same s3 _ _ h1) (.cons (Dp.same s3 _ _ h2) (.cons (Dp.same s3 _ _ h3) .nil)))
            refine ⟨_, rfl, nv, .ref p1, 3, n, ties, .tuple [e1, e2, e3], rfl, hN.keep (sKt s3), hdr, _, rfl, ifN (fun c5 => no3 _ s3 ?_) (fun c5 => ?_)⟩
            · rintro ⟨a, b, c', W1, W2, W3, he, la, lb, lc, n1, n2, n3, _⟩
              have := PyData.tuple.inj he
              simp only [List.cons.injEq, and_true, true_and] at this
              obtain ⟨rfl, rfl, rfl, _⟩ := this
              have e9 : ptsOf n ([a, b, c'].map fun x : Nat => PyData.int (x : Int)) = some [a, b, c'] := ptsOf_castJ (by simp; omega)
              unfold lPtsD at c5
              dsimp only at c5
              rw [show [PyData.int (a : Int), .int (b : Int), .int (c' : Int)] = [a, b, c'].map fun x : Nat => PyData.int (x : Int) from rfl, e9] at c5
              simp at c5
            obtain ⟨xs, e8, hlt, _, _⟩ := lpts_yes c5
            have e8 := PyData.tuple.inj e8
            match xs, e8, hlt with
            | [x, y, z], e8, hlt =>
              simp only [List.map_cons, List.map_nil, List.cons.injEq, and_true] at e8
              obtain ⟨rfl, rfl, rfl⟩ := e8
              refine ⟨_, rfl, _, rfl, _, rfl, ?_⟩
              refine slQT (sqT_same s3 hs) fun p2 H4 s4 hp2 => ?_
              rw [e] at hp2
              have hp2 : SqT K H4 p2 ([x, y, z].map pI) := by
                cases h1
                cases h2
                cases h3
                exact hp2
              refine ⟨p2, [x, y, z], rfl, hp2, fun H5 s5 => ⟨_, rfl, ifN (fun c6 => no3 _ (s3.trans (s4.trans s5)) ?_) (fun c6 => ⟨rfl, s3.trans (s4.trans s5), rfl, x, y, z, e4, e5, e6, rfl, hlt x (by simp), hlt y (by simp), hlt z (by simp), of_decide_eq_true c6⟩)⟩⟩
              rintro ⟨a, b, c', W1, W2, W3, he, _, _, _, n1, n2, n3, _⟩
              have := PyData.tuple.inj he
              simp only [List.cons.injEq, and_true, true_and, PyData.int.injEq] at this
              obtain ⟨ea, eb, ec, _⟩ := this
              have : [x, y, z].Nodup := by simp; omega
              rw [decide_eq_true this] at c6
              cases c6
            | [], e8, _ => cases e8
            | [_], e8, _ => simp at e8
            | [_, _], e8, _ => simp at e8
            | _ :: _ :: _ :: _ :: _, e8, _ => simp at e8
    rintro σ' H3 ⟨rfl, s3, rfl, x, y, z, e4, e5, e6, rfl, hx, hy, hz, ndx⟩
    cases ha with
    | cons h1 ha =>
      cases h1
      cases ha with
      | cons h2 ha =>
        cases h2
        cases ha with
        | cons h3 ha =>
          cases h3
          cases ha with
          | cons h4 ha =>
            cases ha with
            | cons h5 ha =>
              cases ha with
              | cons h6 ha =>
                cases ha
                rename_i v4 v5 v6
                refine ⟨_, rfl, _, rfl, _, rfl, ?_⟩
                refine slQT (sqT_same s3 hs) fun p2 H4 s4 hp => ?_
                have hp : SqT K H4 p2 [pI x, pI y, pI z] := by
                  rw [show [pI x, pI y, pI z] = cutV [V.str "three", pI x, pI y, pI z, v4, v5, v6] (some (1 : Int)) (some (4 : Int)) from (cut3 _ _ _ _ _).symm]
                  exact hp
                refine ⟨p2, _, rfl, hp, rfl, _, _, rfl, _, _, rfl, _, _, rfl, rfl, ?_⟩
                have s24 := s3.trans s4
                have key := three_parts (T := tieT ties) (e4 := e4) (e5 := e5) (e6 := e6) hx hy hz ndx
                refine ⟨_, rfl, _, rfl, _, _, _, _, rfl, rfl, sqT_same s24 hs, rfl, _, rfl, _, rfl, _, rfl, nv, v4, n, x, y, z, ties, e4, rfl, hN.keep (sKt s24), hg, hn, hz, Dp.same s24 _ _ h4, hl2 _ _ rfl (by simp), fun a1 H5 s5 ha1 => ⟨_, rfl, ifB (fun c5 => ?_) (fun c5 => no3 _ (s24.trans s5) fun k => ?_)⟩⟩
                · have s25 := s24.trans s5
                  refine ⟨_, rfl, _, rfl, _, _, _, _, rfl, rfl, sqT_same s25 hs, rfl, _, rfl, _, rfl, _, rfl, nv, v5, n, x, z, y, ties, e5, rfl, hN.keep (sKt s25), hg, hn, hy, Dp.same s25 _ _ h5, hl2 _ _ rfl (by simp), fun a2 H6 s6 ha2 => ⟨_, rfl, ifB (fun c6 => ?_) (fun c6 => no3 _ (s25.trans s6) fun k => ?_)⟩⟩
                  · have s26 := s25.trans s6
                    refine ⟨_, rfl, _, rfl, _, _, _, _, rfl, rfl, sqT_same s26 hs, rfl, _, rfl, _, rfl, _, rfl, nv, v6, n, y, z, x, ties, e6, rfl, hN.keep (sKt s26), hg, hn, hx, Dp.same s26 _ _ h6, hl2 _ _ rfl (by simp), fun a3 H7 s7 ha3 => q _ _ (s26.trans s7) ?_⟩
                    rw [ha3, eq3, key]
                    exact ⟨fun w3 => ⟨ha1.mp c5, ha2.mp c6, w3⟩, fun k => k.2.2⟩
                  · rw [ha2.mpr (key.mp k).2.1] at c6
                    cases c6
                · rw [ha1.mpr (key.mp k).1] at c5
                  cases c5
end
end Ns
/-! Own layer: the law's looks at equal stretches, of any data. -/
--CUT _law_is_clawed _law_is_equal
namespace Ns
open PySem PySem.Spec PyProof.Rows L2
local macro_rules | `(tactic| walk_at "look") => `(tactic| first | assumption | exact upd_same | (refine (upd_ne (by first | assumption | exact Ne.symm (by assumption))).trans ?_; walk_at "look"))
local macro_rules | `(tactic| walk_at "cond") => `(tactic| first | assumption | omega | (dsimp only; omega) | exact ⟨by omega, by omega⟩ | decide | exact ⟨by decide, by decide, by decide⟩ | exact .inr ⟨by decide, by decide⟩ | exact .inl ⟨by decide, by decide⟩ | exact .inr ⟨by omega, by omega⟩ | exact .inl ⟨by omega, by omega⟩)
local macro_rules | `(tactic| walk_at "rd1") => `(tactic| first
  | refine ⟨_, rfl, ?_⟩
  | refine ⟨_, _, rfl, rfl, ?_⟩
  | refine ⟨rfl, ?_⟩
  | refine ⟨_, _, rfl, rfl, (by walk_at "cond"), ?_⟩
  | refine ⟨_, _, _, _, rfl, rfl, SqL.of (by walk_at "look"), rfl, ?_⟩
  | refine ⟨_, _, _, _, rfl, rfl, SqT.of (by walk_at "look"), rfl, ?_⟩
  | refine ⟨_, _, _, _, rfl, rfl, (by walk_at "look"), rfl, ?_⟩
  | refine .inl ⟨_, rfl, ?_⟩
  | refine ⟨.inl ⟨rfl, _, SqL.of (by walk_at "look")⟩, ?_⟩
  | refine ⟨_, _, rfl, ⟨by omega, by omega, by omega, by omega⟩, ?_⟩
  | refine ⟨_, rfl, (by omega), (by omega), ?_⟩
  | refine And.intro (by walk_at "cond") ?_)
local macro_rules | `(tactic| walk_at "rd") => `(tactic| repeat (walk_at "rd1"))
abbrev N_law_is_equal : List Str := ["net", "story", "tied", "a", "b", "x"]
theorem sc_law_is_equal : FnScope N_law_is_equal ["net", "story"] (defScope s_law_is_equal) := ⟨rfl, rfl, rfl, by decide +kernel, rfl, by decide +kernel, by decide +kernel⟩
abbrev N_law_is_clawed : List Str := ["net", "place", "tied", "c", "x", "y", "z"]
theorem sc_law_is_clawed : FnScope N_law_is_clawed ["net", "place"] (defScope s_law_is_clawed) := ⟨rfl, rfl, rfl, by decide +kernel, rfl, by decide +kernel, by decide +kernel⟩
section
variable {P : Program} {w : World} {K : PySem.W.Frag} {mg : Str → Option Value} {base : Heap}
theorem persUQ : PersT (fun (_ : Hp) (_ : V) (_ : Unit) => True) := fun _ _ _ _ _ _ => trivial
def badQ (ds : List PyData) (i : Nat) : Option Unit := if isNumD (ds.getD i .none) = true then none else some ()
theorem badQ_nil {ds : List PyData} (h : (List.range ds.length).filterMap (badQ ds) = []) : ∀ d ∈ ds, isNumD d = true := fun d hd => by
  obtain ⟨i, hi⟩ := List.getElem?_of_mem hd
  have h1 := List.filterMap_eq_nil_iff.mp h i (List.mem_range.mpr (List.getElem?_eq_some_iff.mp hi).1)
  unfold badQ at h1
  rw [List.getD_eq_getElem?_getD, hi] at h1
  cases c : isNumD d with
  | true => rfl
  | false =>
    rw [show (some d).getD .none = d from rfl, c] at h1
    cases h1
theorem badQ_cons {ds : List PyData} (h : (List.range ds.length).filterMap (badQ ds) ≠ []) : ∃ d ∈ ds, isNumD d = false := by
  obtain ⟨u, hu⟩ := List.exists_mem_of_ne_nil _ h
  obtain ⟨i, hi, e⟩ := List.mem_filterMap.mp hu
  have hi := List.mem_range.mp hi
  unfold badQ at e
  rw [List.getD_eq_getElem?_getD, List.getElem?_eq_getElem hi] at e
  refine ⟨ds[i], List.getElem_mem hi, ?_⟩
  cases c : isNumD ds[i] with
  | true =>
    rw [show (some ds[i]).getD .none = ds[i] from rfl, c] at e
    cases e
  | false => rfl
theorem nums_all : ∀ {ds : List PyData}, (∀ d ∈ ds, isNumD d = true) → (numsOf ds).isSome = true
  | ds, h => by
    rw [numsOf_isSome, List.all_eq_true]
    exact h
def sp_lequal (K : PySem.W.Frag) : Sp := fun vs H Q _ => ∃ (nv v : V) (n : Nat) (ties : List (Nat × Nat)) (d : PyData), vs = [nv, v] ∧ Net H nv n ties ∧ Good n ties ∧ n ≤ 40 ∧ Dp K H v d ∧ lenDs d ∧ ∀ (ans : Bool) H', Same H H' → (ans = true ↔ EqD n (tieT ties) d) → Q (.bl ans) H'
theorem cal_lequal (A : At K mg "_law_is_equal" s_law_is_equal) (B : Bi mg) (c_law_whole : Cal P w K mg base 1 "_law_whole" (sp_is_number K)) (c_law_table : Cal P w K mg base 1 "_law_table" sp_matrix) (c_law_pairs : Cal P w K mg base 1 "_law_pairs" sp_pairs) : Cal P w K mg base 2 "_law_is_equal" (sp_lequal K) := by
  have nd := sc_law_is_equal.nd
  refine A.cal sc_law_is_equal (fun _ _ _ _ _ _ us hl => match us, hl with | [_, _], _ => rfl) ?_ fun f cdv A' outer s H vs Q E hr h => ⟨_, (C8.pss_cut (ps_if (PW.pt (pw_or (pt_not (pt_val (pe_callB (call_isiK' (K := K) rfl) (by rfl) B.isinstance (by decide +kernel) (pa_cons (pv 1) (pa_cons (pe_bltn (v := .ty "tuple") (u := .type "tuple") (by rfl) B.tuple (by decide +kernel) rfl) pa_nil))))) (pw_or (pt_cmpR op_ne (pe_callB (call_lenK (K := K) rfl) (by rfl) B.len (by decide +kernel) (pa_cons (pv 1) pa_nil)) pe_int (nomark _)) (pw_or (pt_not (pt_val (pe_cal c_law_whole hr (by first | decide | omega) (by rfl) passE (pa_cons (pe_ix (ix_tupK (K := K) rfl) (pv 1) pe_int (fun _ _ => rfl)) pa_nil)))) (pw_or1 (pt_cmpR op_lt (pe_ix (ix_tupK (K := K) rfl) (pv 1) pe_int (fun _ _ => rfl)) pe_int (nomark _))))))) (pss_one (ps_ret pe_bl)) pss_nil)
  (C8.pss_cut (ps_if (PW.pt (pw_or (pt_not (pt_val (pe_callB (call_isiK' (K := K) rfl) (by rfl) B.isinstance (by decide +kernel) (pa_cons (pe_ix (ix_tupK (K := K) rfl) (pv 1) pe_int (fun _ _ => rfl)) (pa_cons (pe_bltn (v := .ty "tuple") (u := .type "tuple") (by rfl) B.tuple (by decide +kernel) rfl) pa_nil))))) (pw_or (pt_cmpR op_ne (pe_callB (call_lenK (K := K) rfl) (by rfl) B.len (by decide +kernel) (pa_cons (pe_ix (ix_tupK (K := K) rfl) (pv 1) pe_int (fun _ _ => rfl)) pa_nil)) (pe_ix (ix_tupK (K := K) rfl) (pv 0) pe_int (fun _ _ => rfl)) (nomark _)) (pw_or1 (pt_truthK (K := K) rfl (pe_lc (own := [("x", 5)]) rfl nd (pi_tupK (K := K) rfl (pe_ix (ix_tupK (K := K) rfl) (pv 1) pe_int (fun _ _ => rfl))) (blkOk_by (own := [("x", 5)]) (N := N_law_is_equal) (sc := defScope s_law_is_equal) (by decide +kernel)) (fun _ _ _ _ _ => (pg_name (i := 5) nd rfl (.inl rfl) (.inr rfl))) (fun _ _ _ _ _ => (pts_one (pt_not (pt_val (pe_cal c_law_whole hr (by first | decide | omega) (by rfl) passL (pa_cons (pv 5) pa_nil)))))) (fun _ _ _ _ _ => (pv 5))) (by intro _; rfl)))))) (pss_one (ps_ret pe_bl)) pss_nil)
  (pss_cons (ps_set (i := 2) nd rfl (.inl rfl) (pe_cal c_law_table hr (by first | decide | omega) (by rfl) passE (pa_cons (pv 0) pa_nil)))
  (pss_cons (ps_for passOwn rfl (pi_listK (K := K) rfl (pe_cal c_law_pairs hr (by first | decide | omega) (by rfl) passE (pa_cons (pe_ix (ix_tupK (K := K) rfl) (pv 0) pe_int (fun _ _ => rfl)) pa_nil))) (pg_tupK (K := K) (n := 2) rfl rfl (pgs_cons (pg_name (i := 3) nd rfl (.inl rfl)) (pgs_cons (pg_name (i := 4) nd rfl (.inl rfl)) pgs_nil))) (pss_one (ps_if (pt_cmpR op_ne (pe_ix (ix_listK (K := K) rfl) (pe_ix (ix_listK (K := K) rfl) (pv 2) (pv 3) (fun _ _ => rfl)) (pv 4) (fun _ _ => rfl)) (pe_cmpR op_le (pe_callB call_abs (by rfl) B.abs (by decide +kernel) (pa_cons (pe_op op_sub (pe_ix (ix_tupK (K := K) rfl) (pe_ix (ix_tupK (K := K) rfl) (pv 1) pe_int (fun _ _ => rfl)) (pv 3) (fun _ _ => rfl)) (pe_ix (ix_tupK (K := K) rfl) (pe_ix (ix_tupK (K := K) rfl) (pv 1) pe_int (fun _ _ => rfl)) (pv 4) (fun _ _ => rfl))) pa_nil)) (pe_ix (ix_tupK (K := K) rfl) (pv 1) pe_int (fun _ _ => rfl)) (nomark _)) (nomark _)) (pss_one (ps_ret pe_bl)) pss_nil)))
  (pss_one (ps_ret pe_bl)))))), ?_⟩
  · rintro vs H Q E ⟨nv, v, n, ties, d, rfl, _⟩
    rfl
  · obtain ⟨nv, v, n, ties, d, rfl, hN, hg, hn, hd, hl, q⟩ := h
    obtain ⟨t0, u0, rfl, h0, _⟩ := id hN
    have no : ∀ H', Same H H' → ¬ EqD n (tieT ties) d → Q (.bl false) H' := fun H' s' h => q false H' s' (iff_of_false Bool.false_ne_true h)
    refine cut_midJ (fun σ' H' => σ' = [some (.ref t0), some v, none, none, none, none] ∧ H' = H ∧ ∃ (p : Addr) (z : Int) (v1 : V) (e1 : PyData), v = .ref p ∧ d = .tuple [.int z, e1] ∧ 1 ≤ z ∧ SqT K H p [.int z, v1] ∧ Dp K H v1 e1) ?_ ?_
    · refine ⟨_, rfl, _, .ty "tuple", .type (tyName _), .type "tuple", _, rfl, .ty _, tyX_of hd, kit_ty (kit_isi _ "tuple" (by simp)), ?_⟩
      rw [isi_tuple]
      refine ⟨_, rfl, ifN (fun c => no _ (Same.refl H) ?_) (fun c => ?_)⟩
      · rintro ⟨len, X, rfl, _⟩
        cases c
      cases hd with
      | tup hs ha =>
        rename_i p us ds
        have lu := DpAll.len ha
        refine ⟨_, rfl, _, _, rfl, .inr ⟨_, hs, rfl⟩, rfl, _, rfl, ifNI (fun c1 => no _ (Same.refl H) ?_) (fun c1 => ?_)⟩
        · rintro ⟨len, X, e, _⟩
          rw [PyData.tuple.inj e] at lu
          exact c1 (by rw [lu]; rfl)
        have c1 : ((us.length : Nat) : Int) = 2 := c1
        obtain ⟨e0, e1, rfl⟩ : ∃ e0 e1, ds = [e0, e1] := by
          clear ha hl q no
          match ds, lu with
          | [e0, e1], _ => exact ⟨e0, e1, rfl⟩
          | [], h => rw [h] at c1; cases c1
          | [_], h => rw [h] at c1; cases c1
          | _ :: _ :: _ :: r, h => rw [h] at c1; simp at c1; omega
        clear c1 lu
        cases ha with
        | cons d0 ha =>
        cases ha with
        | cons d1 ha =>
        cases ha
        rename_i v0 v1
        refine ⟨_, rfl, _, _, _, _, rfl, rfl, hs, rfl, _, e0, rfl, d0, _, rfl, ifN (fun c2 => no _ (Same.refl H) ?_) (fun c2 => ?_)⟩
        · rintro ⟨len, X, e, _⟩
          have := (List.cons.inj (PyData.tuple.inj e)).1
          subst this
          cases c2
        obtain ⟨z, rfl⟩ : ∃ z, e0 = .int z := by
          cases e0 with
          | int z => exact ⟨z, rfl⟩
          | _ => cases c2
        cases d0
        refine ⟨_, rfl, _, _, _, _, rfl, rfl, hs, rfl, _, _, rfl, rfl, _, rfl, ifD (fun c3 => no _ (Same.refl H) ?_) (fun c3 => ?_)⟩
        · rintro ⟨len, X, e, h1, _⟩
          have := PyData.int.inj (List.cons.inj (PyData.tuple.inj e)).1
          have c3 : z < 1 := c3
          omega
        · have c3 : ¬ z < 1 := c3
          exact ⟨rfl, rfl, p, z, v1, e1, rfl, rfl, by omega, hs, d1⟩
      | _ => cases c
    rintro σ' H' ⟨rfl, rfl, p, z, v1, e1, rfl, rfl, hz, hs, d1⟩
    have le1 : lenD e1 := hl.2 _ e1 rfl (by simp)
    refine cut_midJ (fun σ' H1 => σ' = [some (.ref t0), some (.ref p), none, none, none, none] ∧ Same H' H1 ∧ ∃ (p1 : Addr) (X : Nat → Int), v1 = .ref p1 ∧ e1 = intsD n X ∧ SqT K H' p1 (rowF n X)) ?_ ?_
    · have no1 : ∀ H2, Same H' H2 → (∀ X, e1 ≠ intsD n X) → Q (.bl false) H2 := fun H2 s2 h => no H2 s2 (by
        rintro ⟨len, X, e, _⟩
        have := (List.cons.inj (List.cons.inj (PyData.tuple.inj e)).2).1
        exact h X this)
      refine ⟨_, rfl, _, _, _, _, rfl, rfl, hs, rfl, _, .ty "tuple", .type (tyName _), .type "tuple", _, rfl, .ty _, tyX_of d1, kit_ty (kit_isi _ "tuple" (by simp)), ?_⟩
      rw [isi_tuple]
      refine ⟨_, rfl, ifN (fun c => no1 _ (Same.refl _) ?_) (fun c => ?_)⟩
      · rintro X rfl
        cases c
      cases d1 with
      | tup hs1 ha1 =>
        rename_i p1 us ds
        have lu := DpAll.len ha1
        have lds := le1 ds rfl
        refine ⟨_, rfl, _, _, _, _, rfl, rfl, hs, rfl, _, _, rfl, .inr ⟨_, hs1, rfl⟩, _, rfl, _, _, _, _, rfl, rfl, SqT.of h0, rfl, rfl, _, rfl, ifNI (fun c1 => no1 _ (Same.refl _) ?_) (fun c1 => ?_)⟩
        · intro X e
          have := congrArg List.length (PyData.tuple.inj e)
          rw [List.length_map, List.length_range] at this
          exact c1 (by rw [lu, this])
        have lds2 : ds.length = n := by
          have c1 : ((us.length : Nat) : Int) = n := c1
          omega
        refine ⟨_, rfl, _, _, _, _, rfl, rfl, hs, rfl, p1, rfl, ⟨_, hs1⟩, fun D hD => ?_⟩
        refine comp_tupI (K := K) (us := us) (badQ ds) persUQ hD hs1 (sizeBig (by omega)) ?_ ?_
        · intro i x H2 Yes No hx s2 yes no
          obtain ⟨d, hd1, hd2⟩ := dpAt ha1 hx
          have ed : ds.getD i .none = d := by rw [List.getD_eq_getElem?_getD, hd1]; rfl
          unfold badQ at yes no
          rw [ed] at yes no
          refine ⟨rfl, ?_⟩
          refine ⟨_, rfl, x, d, rfl, Dp.same s2 _ _ hd2, _, rfl, ?_⟩
          cases cn : isNumD d with
          | true => exact iteF (no (if_pos cn) _ (Same.refl _))
          | false => exact iteT ⟨_, rfl, yes () (if_neg (by rw [cn]; exact Bool.false_ne_true)) _ _ (Same.refl _) trivial⟩
        · intro H2 ys s2 hy pr2
          have ly := pr2.length
          rw [lu] at ly
          refine ⟨_, tru_list hy, ?_⟩
          cases ys with
          | cons y r =>
            refine iteT (no1 _ s2 fun X e => ?_)
            obtain ⟨d, hd1, hd2⟩ := badQ_cons (ds := ds) fun e => by
              rw [e] at ly
              cases ly
            rw [PyData.tuple.inj e] at hd1
            obtain ⟨i, _, rfl⟩ := List.mem_map.mp hd1
            cases hd2
          | nil =>
            refine iteF ?_
            have eb : (List.range ds.length).filterMap (badQ ds) = [] := List.eq_nil_of_length_eq_zero ly.symm
            have an : areNumsD (.tuple ds) n = true := by
              unfold areNumsD
              dsimp only
              rw [decide_eq_true (show (ds.length : Int) = (n : Int) by omega), Bool.true_and]
              exact nums_all (badQ_nil eb)
            obtain ⟨X, eX⟩ := intsD_yes an
            have ha2 : DpAll K H' us (((List.range n).map X).map PyData.int) := by
              rw [List.map_map]
              rw [PyData.tuple.inj eX] at ha1
              exact ha1
            have eu := dps_vals ha2
            rw [List.map_map] at eu
            have eu2 : us = rowF n X := eu
            rw [eu2] at hs1
            exact ⟨rfl, s2, p1, X, rfl, eX, hs1⟩
      | _ => cases c
    · rintro σ' H1 ⟨rfl, s1, p1, X, rfl, rfl, hs1⟩
      rw [eqD_iff (by omega)] at q no
      have h01 := s1 _ _ h0
      have hs2 := sqT_same s1 hs
      have hs3 := sqT_same s1 hs1
      have hmt : ∀ p ∈ ties, p.1 < n ∧ p.2 < n := fun p hp => ⟨by have := hg.1 p hp; omega, (hg.1 p hp).2⟩
      refine ⟨_, rfl, .ref t0, n, ties, rfl, hN.keep (sKt s1), by omega, hmt, fun m rows H2 s2 nm _ hM => ?_⟩
      refine ⟨_, rfl, _, _, _, _, rfl, rfl, SqT.of (s2 _ _ h01), rfl, n, rfl, by omega, fun pp ps H3 s3 np hps prs => ?_⟩
      have s23 := s2.trans s3
      have hs4 := sqT_same s23 hs2
      have hs5 := sqT_same s23 hs3
      refine ⟨pp, rfl, ⟨_, SqL.of hps⟩, for_list (K := K) (a := pp) (xs := ps) (fun i σ H4 => ∃ v4 v5, σ = [some (.ref t0), some (.ref p), some (.ref m), v4, v5, none] ∧ H4 = H3 ∧ ∀ u ∈ (allPairs n).take i, (tieT ties u.1 u.2 = true ↔ ((X u.1 - X u.2).natAbs : Int) ≤ z)) ⟨none, none, rfl, rfl, fun z hz => nomatch hz⟩ (fun i σ H4 _ ⟨_, _, _, e, _⟩ => by rw [e]; exact SqL.of hps) ?_ ?_⟩
      · rintro i v σ H4 hv ⟨v4, v5, rfl, rfl, ok⟩
        obtain ⟨u, hu, tz, rfl, htz⟩ := pAtL prs hv
        obtain ⟨lab, lbn⟩ := mem_allPairs.mp (List.mem_of_getElem? hu)
        have lan : u.1 < n := by omega
        have hM3 := hM.same s3
        refine ⟨tz, _, rfl, SqT.of htz, rfl, _, _, rfl, _, _, rfl, rfl, ?_⟩
        refine rdM hM3 rfl rfl rfl lan lbn ?_
        have eabs : (if X u.1 - X u.2 < 0 then -(X u.1 - X u.2) else X u.1 - X u.2) = ((X u.1 - X u.2).natAbs : Int) := by split <;> omega
        refine ⟨_, rfl, _, _, _, _, rfl, rfl, hs4, rfl, _, rfl, _, _, _, _, rfl, rfl, hs5, atI_nat (j := u.1) (rowF_at lan), _, rfl, _, _, _, _, rfl, rfl, hs4, rfl, _, rfl, _, _, _, _, rfl, rfl, hs5, atI_nat (j := u.2) (rowF_at lbn), _, _, rfl, rfl, _, rfl, ?_⟩
        rw [eabs]
        refine ⟨_, rfl, _, _, _, _, rfl, rfl, hs4, rfl, _, _, rfl, rfl, ?_⟩
        refine ⟨rfl, _, rfl, ?_⟩
        by_cases e : tieT ties u.1 u.2 = decide (((X u.1 - X u.2).natAbs : Int) ≤ z)
        · rw [decide_eq_true (congrArg V.bl e)]
          refine iteF ⟨_, _, rfl, rfl, fun y hy => ?_⟩
          rw [List.take_add_one, hu] at hy
          rcases List.mem_append.mp hy with hy | hy
          · exact ok y hy
          · have e2 : y = u := by simpa using hy
            rw [e2, e, decide_eq_true_eq]
        · rw [decide_eq_false fun k => e (V.bl.inj k)]
          exact iteT (no _ (s1.trans s23) fun h => e (by rw [Bool.eq_iff_iff, decide_eq_true_eq]; exact h u.1 u.2 lab lbn))
      · rintro σ H4 ⟨v4, v5, rfl, rfl, ok⟩
        have lps := prs.length
        rw [show ps.length = (allPairs n).length by omega, List.take_length] at ok
        exact q true _ (s1.trans s23) (iff_of_true rfl fun a b h1 h2 => ok (a, b) (mem_allPairs.mpr ⟨h1, h2⟩))
def sp_lclaw (K : PySem.W.Frag) : Sp := fun vs H Q _ => ∃ (nv v : V) (n : Nat) (ties : List (Nat × Nat)) (d : PyData), vs = [nv, v] ∧ Net H nv n ties ∧ Good n ties ∧ n ≤ 40 ∧ Dp K H v d ∧ lenDs d ∧ SyT (tieT ties) ∧ ∀ (ans : Bool) H', Same H H' → (ans = true ↔ ClawD n (tieT ties) d) → Q (.bl ans) H'
theorem cal_lclaw (A : At K mg "_law_is_clawed" s_law_is_clawed) (B : Bi mg) (c_law_points : Cal P w K mg base 2 "_law_points" (sp_lpts K)) (c_law_unlike : Cal P w K mg base 1 "_law_unlike" (sp_lunlikeJ K)) (c_law_table : Cal P w K mg base 1 "_law_table" sp_matrix) (c_law_is_bent : Cal P w K mg base 4 "_law_is_bent" (sp_lbent K)) : Cal P w K mg base 5 "_law_is_clawed" (sp_lclaw K) := by
  have nd := sc_law_is_clawed.nd
  refine A.cal sc_law_is_clawed (fun _ _ _ _ _ _ us hl => match us, hl with | [_, _], _ => rfl) ?_ fun f cdv A' outer s H vs Q E hr h => ⟨_, (C8.pss_cut (ps_if (PW.pt (pw_or (pt_not (pt_val (pe_callB (call_isiK' (K := K) rfl) (by rfl) B.isinstance (by decide +kernel) (pa_cons (pv 1) (pa_cons (pe_bltn (v := .ty "tuple") (u := .type "tuple") (by rfl) B.tuple (by decide +kernel) rfl) pa_nil))))) (pw_or (pt_cmpR op_eq (pe_callB (call_lenK (K := K) rfl) (by rfl) B.len (by decide +kernel) (pa_cons (pv 1) pa_nil)) pe_int (nomark _)) (pw_or1 (pt_not (pt_val (pe_callB (call_isiK' (K := K) rfl) (by rfl) B.isinstance (by decide +kernel) (pa_cons (pe_ix (ix_tupK (K := K) rfl) (pv 1) pe_int (fun _ _ => rfl)) (pa_cons (pe_bltn (v := .ty "str") (u := .type "str") (by rfl) B.str_ (by decide +kernel) rfl) pa_nil))))))))) (pss_one (ps_ret pe_bl)) pss_nil)
  (C8.pss_cut (ps_if (pt_cmpR op_ne (pe_ix (ix_tupK (K := K) rfl) (pv 1) pe_int (fun _ _ => rfl)) pe_str (nomark _)) (pss_one (ps_ret (pe_cal c_law_is_bent hr (by first | decide | omega) (by rfl) passE (pa_cons (pv 0) (pa_cons (pv 1) pa_nil))))) pss_nil)
  (C8.pss_cut (ps_if (PW.pt (pw_or (pt_not (pt_val (pe_cal c_law_points hr (by first | decide | omega) (by rfl) passE (pa_cons (pe_slice (sl_tupAK (K := K) rfl) (pv 1) (po_some pe_int) po_none) (pa_cons pe_int (pa_cons (pv 0) pa_nil)))))) (pw_or1 (pt_not (pt_val (pe_cal c_law_unlike hr (by first | decide | omega) (by rfl) passE (pa_cons (pe_slice (sl_tupAK (K := K) rfl) (pv 1) (po_some pe_int) po_none) pa_nil))))))) (pss_one (ps_ret pe_bl)) pss_nil)
  (pss_cons (ps_set (i := 2) nd rfl (.inl rfl) (pe_cal c_law_table hr (by first | decide | omega) (by rfl) passE (pa_cons (pv 0) pa_nil)))
  (pss_cons (ps_asg (pe_slice (sl_tupAK (K := K) rfl) (pv 1) (po_some pe_int) po_none) (pg_tupK (K := K) (n := 4) rfl rfl (pgs_cons (pg_name (i := 3) nd rfl (.inl rfl)) (pgs_cons (pg_name (i := 4) nd rfl (.inl rfl)) (pgs_cons (pg_name (i := 5) nd rfl (.inl rfl)) (pgs_cons (pg_name (i := 6) nd rfl (.inl rfl)) pgs_nil))))))
  (pss_one (ps_ret (pe_and (pe_ix (ix_listK (K := K) rfl) (pe_ix (ix_listK (K := K) rfl) (pv 2) (pv 3) (fun _ _ => rfl)) (pv 4) (fun _ _ => rfl)) (pe_and (pe_ix (ix_listK (K := K) rfl) (pe_ix (ix_listK (K := K) rfl) (pv 2) (pv 3) (fun _ _ => rfl)) (pv 5) (fun _ _ => rfl)) (pe_and (pe_ix (ix_listK (K := K) rfl) (pe_ix (ix_listK (K := K) rfl) (pv 2) (pv 3) (fun _ _ => rfl)) (pv 6) (fun _ _ => rfl)) (pe_one (pe_not (pe_or (pe_ix (ix_listK (K := K) rfl) (pe_ix (ix_listK (K := K) rfl) (pv 2) (pv 4) (fun _ _ => rfl)) (pv 5) (fun _ _ => rfl)) (pe_or (pe_ix (ix_listK (K := K) rfl) (pe_ix (ix_listK (K := K) rfl) (pv 2) (pv 4) (fun _ _ => rfl)) (pv 6) (fun _ _ => rfl)) (pe_one (pe_ix (ix_listK (K := K) rfl) (pe_ix (ix_listK (K := K) rfl) (pv 2) (pv 5) (fun _ _ => rfl)) (pv 6) (fun _ _ => rfl))))))))))))))))), ?_⟩
  · rintro vs H Q E ⟨nv, v, n, ties, d, rfl, _⟩
    rfl
  · obtain ⟨nv, v, n, ties, d, rfl, hN, hg, hn, hd, hl, S, q⟩ := h
    have no : ∀ H', Same H H' → ¬ ClawD n (tieT ties) d → Q (.bl false) H' := fun H' s' h => q false H' s' (iff_of_false Bool.false_ne_true h)
    refine cut_midJ (fun σ' H' => σ' = [some nv, some v, none, none, none, none, none] ∧ H' = H ∧ ∃ (p : Addr) (x : Str) (us : List V) (es : List PyData), v = .ref p ∧ d = .tuple (.str x :: es) ∧ SqT K H p (.str x :: us) ∧ DpAll K H us es) ?_ ?_
    · refine ⟨_, rfl, _, .ty "tuple", .type (tyName _), .type "tuple", _, rfl, .ty _, tyX_of hd, kit_ty (kit_isi _ "tuple" (by simp)), ?_⟩
      rw [isi_tuple]
      refine ⟨_, rfl, ifN (fun c => no _ (Same.refl H) ?_) (fun c => ?_)⟩
      · rintro ((⟨e, rfl, _⟩ | ⟨a, b, c', W1, W2, W3, rfl, _⟩) | ⟨c', x, y, z, rfl, _⟩) <;> cases c
      cases hd with
      | tup hs ha =>
        rename_i p us es
        refine ⟨_, rfl, _, _, rfl, .inr ⟨_, hs, rfl⟩, rfl, _, rfl, ifI (fun c1 => no _ (Same.refl H) ?_) (fun c1 => ?_)⟩
        · have lu := DpAll.len ha
          have : es.length = 0 := by omega
          rw [List.length_eq_zero_iff.mp this]
          rintro ((⟨e, h, _⟩ | ⟨a, b, c', W1, W2, W3, h, _⟩) | ⟨c', x, y, z, h, _⟩) <;> cases h
        cases ha with
        | nil => exact absurd rfl c1
        | cons h0 ha =>
          rename_i v0 us e0 es
          refine ⟨_, rfl, _, _, _, _, rfl, rfl, hs, atI_nat (xs := v0 :: us) (j := 0) rfl, _, .ty "str", .type (tyName _), .type "str", _, rfl, .ty _, tyX_of h0, kit_ty (kit_isi _ "str" (by simp)), ?_⟩
          rw [isi_str]
          refine ⟨_, rfl, ifN (fun c2 => no _ (Same.refl H) ?_) (fun c2 => ?_)⟩
          · rintro ((⟨e, h, _⟩ | ⟨a, b, c', W1, W2, W3, h, _⟩) | ⟨c', x, y, z, h, _⟩)
            all_goals
              have := PyData.tuple.inj h
              simp only [List.cons.injEq] at this
              rw [this.1] at c2
              cases c2
          · cases h0 with
            | str x => exact ⟨rfl, rfl, p, x, us, es, rfl, rfl, hs, ha⟩
            | _ => cases c2
      | _ => cases c
    rintro σ' H' ⟨rfl, rfl, p, x, us, es, rfl, rfl, hs, ha⟩
    have lu := DpAll.len ha
    refine cut_midJ (fun σ' H2 => σ' = [some nv, some (.ref p), none, none, none, none, none] ∧ H2 = H' ∧ x = "claw") ?_ ?_
    · refine ⟨_, rfl, _, _, _, _, rfl, rfl, hs, atI_nat (xs := V.str x :: us) (j := 0) rfl, rfl, _, rfl, ifND (fun c3 => ?_) (fun c3 => ⟨rfl, rfl, V.str.inj c3⟩)⟩
      have nc : x ≠ "claw" := fun e => c3 (by rw [e])
      refine ⟨_, rfl, _, rfl, nv, .ref p, n, ties, _, rfl, hN, hg, hn, hd, hl, fun ans H1 s1 ha1 => q ans H1 s1 (ha1.trans ⟨.inl, ?_⟩)⟩
      rintro (k | ⟨c', x', y', z', e, _⟩)
      · exact k
      · have := PyData.tuple.inj e
        simp only [List.cons.injEq, PyData.str.injEq] at this
        exact absurd this.1 nc
    rintro σ' H2 ⟨rfl, rfl, rfl⟩
    have noC : ∀ H3, Same H2 H3 → (¬ ∃ c x y z : Nat, es = [.int (c : Int), .int (x : Int), .int (y : Int), .int (z : Int)] ∧ ClawP n (tieT ties) c x y z) → Q (.bl false) H3 := fun H3 s3 h => no H3 s3 (by
      rintro ((⟨e, k, _⟩ | ⟨a, b, c', W1, W2, W3, k, _⟩) | ⟨c', x, y, z, k, k2⟩)
      · have := PyData.tuple.inj k
        simp only [List.cons.injEq, PyData.str.injEq] at this
        exact absurd this.1 (by decide)
      · have := PyData.tuple.inj k
        simp only [List.cons.injEq, PyData.str.injEq] at this
        exact absurd this.1 (by decide)
      · exact h ⟨c', x, y, z, (List.cons.inj (PyData.tuple.inj k)).2, k2⟩)
    refine cut_midJ (fun σ' H3 => σ' = [some nv, some (.ref p), none, none, none, none, none] ∧ Same H2 H3 ∧ ∃ c x y z : Nat, es = [.int (c : Int), .int (x : Int), .int (y : Int), .int (z : Int)] ∧ c < n ∧ x < n ∧ y < n ∧ z < n ∧ [c, x, y, z].Nodup) ?_ ?_
    · refine ⟨_, rfl, _, rfl, ?_⟩
      unfold tNoPart
      dsimp only
      refine slQT hs fun p1 H3 s3 hp => ?_
      rw [show (some (1 : Int)) = some ((1 : Nat) : Int) from rfl, cutV_past] at hp
      have hdr : Dp K H3 (.ref p1) (.tuple es) := .tup hp (DpAll.same s3 _ _ ha)
      refine ⟨_, rfl, nv, .ref p1, 4, n, ties, .tuple es, rfl, hN.keep (sKt s3), hdr, _, rfl, ifN (fun c5 => noC _ s3 ?_) (fun c5 => ?_)⟩
      · rintro ⟨c, x, y, z, rfl, k⟩
        obtain ⟨_, lt⟩ := k.pts S
        have e9 : ptsOf n ([c, x, y, z].map fun x : Nat => PyData.int (x : Int)) = some [c, x, y, z] := ptsOf_castJ lt
        unfold lPtsD at c5
        dsimp only at c5
        rw [show [PyData.int (c : Int), .int (x : Int), .int (y : Int), .int (z : Int)] = [c, x, y, z].map fun x : Nat => PyData.int (x : Int) from rfl, e9] at c5
        simp at c5
      obtain ⟨xs, e8, hlt, _, _⟩ := lpts_yes c5
      have e8 := PyData.tuple.inj e8
      have le : es.length = 4 := by
        unfold lPtsD at c5
        dsimp only at c5
        have := (Bool.and_eq_true_iff.mp c5).1
        simp at this
        omega
      match xs, e8, hlt with
      | [c, x, y, z], e8, hlt =>
        have e8' : es = [c, x, y, z].map fun x : Nat => PyData.int (x : Int) := e8
        subst e8'
        have eu : us = [c, x, y, z].map pI := by
          have := dps_vals (xs := [c, x, y, z].map fun x : Nat => (x : Int)) (vs := us) (H := H2) ha
          rw [this, List.map_map]
          rfl
        refine ⟨_, rfl, _, rfl, ?_⟩
        dsimp only
        refine slQT (sqT_same s3 hs) fun p2 H4 s4 hp2 => ?_
        rw [show (some (1 : Int)) = some ((1 : Nat) : Int) from rfl, cutV_past] at hp2
        have hp2 : SqT K H4 p2 ([c, x, y, z].map pI) := eu ▸ hp2
        refine ⟨p2, [c, x, y, z], rfl, hp2, fun H5 s5 => ⟨_, rfl, ifN (fun c6 => noC _ (s3.trans (s4.trans s5)) ?_) (fun c6 => ⟨rfl, s3.trans (s4.trans s5), c, x, y, z, rfl, hlt c (by simp), hlt x (by simp), hlt y (by simp), hlt z (by simp), of_decide_eq_true c6⟩)⟩⟩
        rintro ⟨c', x', y', z', he, k⟩
        simp only [List.map_cons, List.map_nil, List.cons.injEq, and_true, PyData.int.injEq] at he
        obtain ⟨ea, eb, ec, ed⟩ := he
        have ea : c = c' := by omega
        have eb : x = x' := by omega
        have ec : y = y' := by omega
        have ed : z = z' := by omega
        subst ea eb ec ed
        exact of_decide_eq_false c6 (k.pts S).1
      | [], e8, _ => rw [e8] at le; cases le
      | [_], e8, _ => rw [e8] at le; simp at le
      | [_, _], e8, _ => rw [e8] at le; simp at le
      | [_, _, _], e8, _ => rw [e8] at le; simp at le
      | _ :: _ :: _ :: _ :: _ :: _, e8, _ => rw [e8] at le; simp at le
    rintro σ' H3 ⟨rfl, s3, c, x, y, z, rfl, hc, hx, hy, hz, ndx⟩
    have eu : us = [c, x, y, z].map pI := by
      have := dps_vals (xs := [c, x, y, z].map fun x : Nat => (x : Int)) (vs := us) (H := H2) ha
      rw [this, List.map_map]
      rfl
    subst eu
    have hmt : ∀ p ∈ ties, p.1 < n ∧ p.2 < n := fun p hp => ⟨by have := hg.1 p hp; omega, (hg.1 p hp).2⟩
    refine ⟨_, rfl, nv, n, ties, rfl, hN.keep (sKt s3), by omega, hmt, fun m rows H4 s4 nm _ hM => ?_⟩
    refine ⟨_, rfl, _, rfl, ?_⟩
    unfold tNoPart
    dsimp only
    refine slQT (sqT_same (s3.trans s4) hs) fun p2 H5 s5 hp2 => ?_
    rw [show (some (1 : Int)) = some ((1 : Nat) : Int) from rfl, cutV_past] at hp2
    have hM5 := hM.same s5
    have s35 := s3.trans (s4.trans s5)
    have isC : ∀ ans : Bool, (ans = true ↔ ClawP n (tieT ties) c x y z) → Q (.bl ans) H5 := fun ans h => q ans H5 s35 (by
      rw [h]
      refine ⟨fun k => .inr ⟨c, x, y, z, rfl, k⟩, fun k => ?_⟩
      rcases k with (⟨e, k, _⟩ | ⟨a, b, c', W1, W2, W3, k, _⟩) | ⟨c', x', y', z', k, k2⟩
      · have := PyData.tuple.inj k
        simp only [List.cons.injEq, PyData.str.injEq] at this
        exact absurd this.1 (by decide)
      · have := PyData.tuple.inj k
        simp only [List.cons.injEq, PyData.str.injEq] at this
        exact absurd this.1 (by decide)
      · have k := PyData.tuple.inj k
        simp only [List.cons.injEq, and_true, true_and, PyData.int.injEq] at k
        obtain ⟨ea, eb, ec, ed⟩ := k
        have ea : c = c' := by omega
        have eb : x = x' := by omega
        have ec : y = y' := by omega
        have ed : z = z' := by omega
        subst ea eb ec ed
        exact k2)
    refine ⟨p2, _, rfl, hp2, rfl, _, _, rfl, _, _, rfl, _, _, rfl, _, _, rfl, rfl, ?_⟩
    have ndy := ndx
    simp only [List.nodup_cons, List.mem_cons, List.not_mem_nil, or_false, not_or] at ndy
    have noW : ¬ ClawP n (tieT ties) c x y z → Q (.bl false) H5 := fun h => isC false (iff_of_false Bool.false_ne_true h)
    have bad : ∀ {b : Bool}, b = true → b = false → False := fun {b} h1 h2 => by rw [h1] at h2; cases h2
    refine rdM hM5 rfl rfl rfl hc hx ⟨_, rfl, ifB (fun c1 => ?_) (fun c1 => noW fun ⟨_, _, _, _, _, _, _, k, _⟩ => bad k c1)⟩
    refine rdM hM5 rfl rfl rfl hc hy ⟨_, rfl, ifB (fun c2 => ?_) (fun c2 => noW fun ⟨_, _, _, _, _, _, _, _, k, _⟩ => bad k c2)⟩
    refine rdM hM5 rfl rfl rfl hc hz ⟨_, rfl, ifB (fun c3 => ?_) (fun c3 => noW fun ⟨_, _, _, _, _, _, _, _, _, k, _⟩ => bad k c3)⟩
    refine rdM hM5 rfl rfl rfl hx hy ⟨_, rfl, ifB (fun c4 => ⟨_, rfl, noW fun ⟨_, _, _, _, _, _, _, _, _, _, k, _⟩ => bad c4 k⟩) (fun c4 => ?_)⟩
    refine rdM hM5 rfl rfl rfl hx hz ⟨_, rfl, ifB (fun c5 => ⟨_, rfl, noW fun ⟨_, _, _, _, _, _, _, _, _, _, _, k, _⟩ => bad c5 k⟩) (fun c5 => ?_)⟩
    refine rdM hM5 rfl rfl rfl hy hz ⟨_, rfl, isC _ ?_⟩
    rw [Bool.not_eq_true']
    exact ⟨fun c6 => ⟨hc, hx, hy, hz, ndy.2.1.1, ndy.2.1.2, ndy.2.2.1, c1, c2, c3, c4, c5, c6⟩, fun ⟨_, _, _, _, _, _, _, _, _, _, _, _, k⟩ => k⟩
end
end Ns
/-! Own layer: kinds checked (not beside A07, J10I, which hold the same). -/
namespace Ns
open PySem PySem.Spec PyProof.Rows L2
local macro_rules | `(tactic| walk_at "look") => `(tactic| first | assumption | exact upd_same | (refine (upd_ne (by first | assumption | exact Ne.symm (by assumption))).trans ?_; walk_at "look"))
local macro_rules | `(tactic| walk_at "cond") => `(tactic| first | assumption | omega | (dsimp only; omega) | exact ⟨by omega, by omega⟩ | decide | exact ⟨by decide, by decide, by decide⟩ | exact .inr ⟨by decide, by decide⟩ | exact .inl ⟨by decide, by decide⟩ | exact .inr ⟨by omega, by omega⟩ | exact .inl ⟨by omega, by omega⟩)
local macro_rules | `(tactic| walk_at "rd1") => `(tactic| first
  | refine ⟨_, rfl, ?_⟩
  | refine ⟨_, _, rfl, rfl, ?_⟩
  | refine ⟨rfl, ?_⟩
  | refine ⟨_, _, rfl, rfl, (by walk_at "cond"), ?_⟩
  | refine ⟨_, _, _, _, rfl, rfl, SqL.of (by walk_at "look"), rfl, ?_⟩
  | refine ⟨_, _, _, _, rfl, rfl, SqT.of (by walk_at "look"), rfl, ?_⟩
  | refine ⟨_, _, _, _, rfl, rfl, (by walk_at "look"), rfl, ?_⟩
  | refine .inl ⟨_, rfl, ?_⟩
  | refine ⟨.inl ⟨rfl, _, SqL.of (by walk_at "look")⟩, ?_⟩
  | refine ⟨_, _, rfl, ⟨by omega, by omega, by omega, by omega⟩, ?_⟩
  | refine ⟨_, rfl, (by omega), (by omega), ?_⟩
  | refine And.intro (by walk_at "cond") ?_)
local macro_rules | `(tactic| walk_at "rd") => `(tactic| repeat (walk_at "rd1"))
abbrev N_check_kind : List Str := ["kind", "among"]
theorem sc_check_kind : FnScope N_check_kind ["kind", "among"] (defScope s_check_kind) := ⟨rfl, rfl, rfl, by decide +kernel, rfl, by decide +kernel, by decide +kernel⟩
theorem op_notInKd {X : Cx} {K : PySem.W.Frag} (hK : X.K = K) : OpR X (compareOp .NotIn) (fun x y H Q => ∃ (p : Addr) (z : Str) (es : Array DictEntry) (n : Nat) (u : Value), x = .str z ∧ y = .ref p ∧ KDict K X.w p es n ∧ PySem.W.nsIn K p z = some (some u) ∧ Q (.bl false) H) := by
  subst hK
  intro pins s σ H x y v u Q I rx ry h
  obtain ⟨p, z, es, n, u0, rfl, rfl, D, e, q⟩ := h
  exact op_notIn_kd D pins s σ H _ _ v u Q I rx ry ⟨z, some u0, rfl, rfl, e, q⟩
section
variable {P : Program} {w : World} {K : PySem.W.Frag} {mg : Str → Option Value} {base : Heap}
theorem flat_strs : ∀ ys : List Str, (ys.map V.str).all flatV = true
  | [] => rfl
  | _ :: r => by rw [List.map_cons, List.all_cons, flat_strs r]; rfl
def sp_check_kind (K : PySem.W.Frag) : Sp := fun vs H Q _ => ∃ (z : Str) (a : Addr) (ys : List Str), vs = [.str z, .ref a] ∧ SqT K H a (ys.map V.str) ∧ inV (.str z) (ys.map V.str) = true ∧ ∀ H', Same H H' → Q .non H'
theorem cal_check_kind {CK aK : Addr} (A : AtD K mg "check_kind" s_check_kind [.ref aK]) (B : Bi mg) (x_BadKind : ExcC K mg "BadKind" CK) : CalD P w K mg base 1 "check_kind" [.ref aK] (sp_check_kind K) := by
  have nd := sc_check_kind.nd
  refine A.cal sc_check_kind 1 (by simp) rfl (fun _ _ _ _ _ _ _ us its hu hi => match us, its, hu, hi with | [_], [_], _, _ => ⟨_, rfl, rfl⟩) ?_ fun f cdv A' outer s H vs Q E hr h => ⟨_, (pss_one (ps_if (PW.pt (pw_or (pt_not (pt_val (pe_callB (call_isiK' (K := K) rfl) (by rfl) B.isinstance (by decide +kernel) (pa_cons (pv 0) (pa_cons (pe_bltn (v := .ty "str") (u := .type "str") (by rfl) B.str_ (by decide +kernel) rfl) pa_nil))))) (pw_or1 (pt_cmpR (op_notIn_seqK (K := K) rfl) (pv 0) (pv 1) rfl)))) (pss_one (ps_raise rfl (takes_of rfl rfl rfl rfl) (pmk_own0 PySem.F.excBase_ValueError x_BadKind.ex x_BadKind.g x_BadKind.kp (raises_own x_BadKind.sub x_BadKind.ty) (by rfl)))) pss_nil)), ?_⟩
  · rintro vs H Q E ⟨z, a, ys, rfl, _⟩
    rfl
  · obtain ⟨z, a, ys, rfl, hs, hin, q⟩ := h
    have hz : Dp K H (.str z) (.str z) := .str z
    refine ⟨_, rfl, _, .ty "str", .type (tyName _), .type "str", _, rfl, .ty _, tyX_of hz, kit_ty (kit_isi _ "str" (by simp)), ?_⟩
    rw [isi_str]
    refine ⟨_, rfl, ifB (fun c => by cases c) (fun _ => ?_)⟩
    refine ⟨_, rfl, _, rfl, a, _, rfl, .inr hs, rfl, flat_strs ys, _, rfl, ?_⟩
    rw [hin]
    exact iteF (q H (Same.refl H))
end
end Ns
/-! Own layer: tell, is_of and judge, for any kinds. -/
namespace Ns
open PySem PySem.Spec PyProof.Rows L2
local macro_rules | `(tactic| walk_at "look") => `(tactic| first | assumption | exact upd_same | (refine (upd_ne (by first | assumption | exact Ne.symm (by assumption))).trans ?_; walk_at "look"))
local macro_rules | `(tactic| walk_at "cond") => `(tactic| first | assumption | omega | (dsimp only; omega) | exact ⟨by omega, by omega⟩ | decide | exact ⟨by decide, by decide, by decide⟩ | exact .inr ⟨by decide, by decide⟩ | exact .inl ⟨by decide, by decide⟩ | exact .inr ⟨by omega, by omega⟩ | exact .inl ⟨by omega, by omega⟩)
local macro_rules | `(tactic| walk_at "rd1") => `(tactic| first
  | refine ⟨_, rfl, ?_⟩
  | refine ⟨_, _, rfl, rfl, ?_⟩
  | refine ⟨rfl, ?_⟩
  | refine ⟨_, _, rfl, rfl, (by walk_at "cond"), ?_⟩
  | refine ⟨_, _, _, _, rfl, rfl, SqL.of (by walk_at "look"), rfl, ?_⟩
  | refine ⟨_, _, _, _, rfl, rfl, SqT.of (by walk_at "look"), rfl, ?_⟩
  | refine ⟨_, _, _, _, rfl, rfl, (by walk_at "look"), rfl, ?_⟩
  | refine .inl ⟨_, rfl, ?_⟩
  | refine ⟨.inl ⟨rfl, _, SqL.of (by walk_at "look")⟩, ?_⟩
  | refine ⟨_, _, rfl, ⟨by omega, by omega, by omega, by omega⟩, ?_⟩
  | refine ⟨_, rfl, (by omega), (by omega), ?_⟩
  | refine And.intro (by walk_at "cond") ?_)
local macro_rules | `(tactic| walk_at "rd") => `(tactic| repeat (walk_at "rd1"))
abbrev N_tell : List Str := ["net", "kind"]
theorem sc_tell : FnScope N_tell ["net", "kind"] (defScope s_tell) := ⟨rfl, rfl, rfl, by decide +kernel, rfl, by decide +kernel, by decide +kernel⟩
abbrev N_is_of : List Str := ["net", "kind"]
theorem sc_is_of : FnScope N_is_of ["net", "kind"] (defScope s_is_of) := ⟨rfl, rfl, rfl, by decide +kernel, rfl, by decide +kernel, by decide +kernel⟩
abbrev N_judge : List Str := ["net", "kind", "says", "paper"]
theorem sc_judge : FnScope N_judge ["net", "kind", "says", "paper"] (defScope s_judge) := ⟨rfl, rfl, rfl, by decide +kernel, rfl, by decide +kernel, by decide +kernel⟩
section
variable {P : Program} {w : World} {K : PySem.W.Frag} {mg : Str → Option Value} {base : Heap} {κ : Type} {kd : κ → Str}
def sp_tellG (κ : Type) (kd : κ → Str) (spT : κ → Sp) : Sp := fun vs H Q E => ∃ (k : κ) (v : V) (n : Nat) (ties : List (Nat × Nat)), vs = [v, .str (kd k)] ∧ Net H v n ties ∧ n ≤ 40 ∧ Good n ties ∧ ∀ H0, Same H H0 → Net H0 v n ties → spT k [v] H0 Q E
theorem cal_tellG {kT : Nat} (hkT : 4 ≤ kT) {CB aK a_TELLERS : Addr} {nt : κ → Str} {fk : κ → Addr} {spT : κ → Sp} {ys : List Str} (A : At K mg "tell" s_tell) (B : Bi mg) (c_check_net : Cal P w K mg base 4 "check_net" (sp_check_net K CB)) (c_check_kind : CalD P w K mg base 1 "check_kind" [.ref aK] (sp_check_kind K))
    (hK : ∀ H, SqT K H aK (ys.map V.str)) (hin : ∀ k, inV (.str (kd k)) (ys.map V.str) = true) (c_TELLERS : mg "TELLERS" = some (.ref a_TELLERS)) (hD : ∀ k, KDct K w a_TELLERS (kd k) (.ref (fk k))) (hf : ∀ k, mg (nt k) = some (.ref (fk k))) (c_of : ∀ k, Cal P w K mg base kT (nt k) (spT k)) : Cal P w K mg base (kT + 1) "tell" (sp_tellG κ kd spT) := by
  have nd := sc_tell.nd
  have c_check_net := c_check_net.mono hkT
  refine A.cal sc_tell (fun _ _ _ _ _ _ us hl => match us, hl with | [_, _], _ => rfl) ?_ fun f cdv A' outer s H vs Q E hr h => ⟨_, (pss_cons (ps_expr (pe_cal c_check_net hr (by first | decide | omega) (by rfl) passE (pa_cons (pv 0) pa_nil)))
  (pss_cons (ps_expr (pe_calD c_check_kind hr (by first | decide | omega) (by rfl) passE (pa_cons (pv 1) pa_nil)))
  (pss_one (ps_ret (pe_callV (k := kT) hr (by omega) (pe_ix ix_kdict (pe_glob (v := .ref a_TELLERS) rfl c_TELLERS rfl) (pv 1) (fun _ _ => rfl)) passE (pa_cons (pv 0) pa_nil)))))), ?_⟩
  · rintro vs H Q E ⟨k, v, n, ties, rfl, _⟩
    rfl
  · obtain ⟨k, v, n, ties, rfl, hN, hn, hg, q⟩ := h
    refine ⟨_, rfl, v, netD n ties, rfl, dp_net hN, fun _ H0 s0 => ?_, fun e => by rw [isNetD_net.mpr ⟨hn, hg⟩] at e; cases e⟩
    refine ⟨_, rfl, kd k, aK, ys, rfl, hK H0, hin k, fun H1 s1 => ?_⟩
    have s01 := s0.trans s1
    refine ⟨_, rfl, a_TELLERS, kd k, .ref (fk k), rfl, rfl, hD k, nt k, fk k, spT k, rfl, hf k, c_of k, ?_⟩
    exact ⟨_, rfl, q H1 s01 (hN.keep (sKt s01))⟩
def sp_isofG (κ : Type) (kd : κ → Str) (Yes : κ → Nat → List (Nat × Nat) → Prop) : Sp := fun vs H Q _ => ∃ (k : κ) (v : V) (n : Nat) (ties : List (Nat × Nat)), vs = [v, .str (kd k)] ∧ Net H v n ties ∧ n ≤ 40 ∧ Good n ties ∧ ∀ (ans : Bool) H', Same H H' → (ans = true ↔ Yes k n ties) → Q (.bl ans) H'
theorem cal_isofG {kT : Nat} {spT : κ → Sp} {Yes : κ → Nat → List (Nat × Nat) → Prop} (A : At K mg "is_of" s_is_of) (B : Bi mg) (c_tell : Cal P w K mg base kT "tell" (sp_tellG κ kd spT))
    (hT : ∀ (k : κ) (v : V) (n : Nat) (ties : List (Nat × Nat)) (H : Hp) (Q : VK) (E : XK), Net H v n ties → n ≤ 40 → Good n ties → (∀ (t : Addr) (ans : Bool) (u : V) (H' : Hp), Same H H' → H' t = some (.tup [.bl ans, u]) → (ans = true ↔ Yes k n ties) → Q (.ref t) H') → spT k [v] H Q E) : Cal P w K mg base (kT + 1) "is_of" (sp_isofG κ kd Yes) := by
  have nd := sc_is_of.nd
  refine A.cal sc_is_of (fun _ _ _ _ _ _ us hl => match us, hl with | [_, _], _ => rfl) ?_ fun f cdv A' outer s H vs Q E hr h => ⟨_, (pss_one (ps_ret (pe_ix (ix_tupK (K := K) rfl) (pe_cal c_tell hr (by first | decide | omega) (by rfl) passE (pa_cons (pv 0) (pa_cons (pv 1) pa_nil))) pe_int (fun _ _ => rfl)))), ?_⟩
  · rintro vs H Q E ⟨k, v, n, ties, rfl, _⟩
    rfl
  · obtain ⟨k, v, n, ties, rfl, hN, hn, hg, q⟩ := h
    refine ⟨_, rfl, _, rfl, k, v, n, ties, rfl, hN, hn, hg, fun H0 s0 hN0 => hT k v n ties H0 _ _ hN0 hn hg fun t ans u H1 s1 ht hk => ?_⟩
    exact ⟨_, _, _, _, rfl, rfl, SqT.of ht, rfl, q ans H1 (s0.trans s1) hk⟩
def sp_judgeG (κ : Type) (kd : κ → Str) (spS spP : κ → Sp) : Sp := fun vs H Q E => ∃ (k : κ) (nv v : V) (n : Nat) (ties : List (Nat × Nat)) (says : Bool), vs = [nv, .str (kd k), .bl says, v] ∧ Net H nv n ties ∧ n ≤ 40 ∧ Good n ties ∧ ∀ H0 (m : Addr) (rows : List Addr), Same H H0 → Net H0 nv n ties → Mat H0 m rows n (tieT ties) → (if says then spS k else spP k) [nv, .ref m, v] H0 Q E
theorem cal_judgeG {kJ : Nat} (hkJ : 4 ≤ kJ) {CB CK a_STORIES a_PLACES : Addr} {ns np : κ → Str} {fs fp : κ → Addr} {spS spP : κ → Sp} (A : At K mg "judge" s_judge) (B : Bi mg) (x_BadKind : ExcC K mg "BadKind" CK) (c_check_net : Cal P w K mg base 4 "check_net" (sp_check_net K CB)) (c_matrix : Cal P w K mg base 1 "matrix" sp_matrix)
    (c_STORIES : mg "STORIES" = some (.ref a_STORIES)) (c_PLACES : mg "PLACES" = some (.ref a_PLACES)) (hD : ∃ es n, KDict K w a_STORIES es n)
    (hS : ∀ k, KDct K w a_STORIES (kd k) (.ref (fs k))) (hfs : ∀ k, mg (ns k) = some (.ref (fs k))) (hP : ∀ k, KDct K w a_PLACES (kd k) (.ref (fp k))) (hfp : ∀ k, mg (np k) = some (.ref (fp k)))
    (c_S : ∀ k, Cal P w K mg base kJ (ns k) (spS k)) (c_P : ∀ k, Cal P w K mg base kJ (np k) (spP k)) : Cal P w K mg base (kJ + 1) "judge" (sp_judgeG κ kd spS spP) := by
  have nd := sc_judge.nd
  have c_check_net := c_check_net.mono hkJ
  have c_matrix := c_matrix.mono (show 1 ≤ kJ by omega)
  refine A.cal sc_judge (fun _ _ _ _ _ _ us hl => match us, hl with | [_, _, _, _], _ => rfl) ?_ fun f cdv A' outer s H vs Q E hr h => ⟨_, (pss_cons (ps_expr (pe_cal c_check_net hr (by first | decide | omega) (by rfl) passE (pa_cons (pv 0) pa_nil)))
  (pss_cons (ps_if (PW.pt (pw_or (pt_not (pt_val (pe_callB (call_isiK' (K := K) rfl) (by rfl) B.isinstance (by decide +kernel) (pa_cons (pv 1) (pa_cons (pe_bltn (v := .ty "str") (u := .type "str") (by rfl) B.str_ (by decide +kernel) rfl) pa_nil))))) (pw_or1 (pt_cmpR (op_notInKd (K := K) rfl) (pv 1) (pe_glob (v := .ref a_STORIES) rfl c_STORIES rfl) rfl)))) (pss_one (ps_raise rfl (takes_of rfl rfl rfl rfl) (pmk_own0 PySem.F.excBase_ValueError x_BadKind.ex x_BadKind.g x_BadKind.kp (raises_own x_BadKind.sub x_BadKind.ty) (by rfl)))) pss_nil)
  (pss_cons (ps_if (pt_val (pv 2)) (pss_one (ps_ret (pe_callV (k := kJ) hr (by omega) (pe_ix ix_kdict (pe_glob (v := .ref a_STORIES) rfl c_STORIES rfl) (pv 1) (fun _ _ => rfl)) passE (pa_cons (pv 0) (pa_cons (pe_cal c_matrix hr (by first | decide | omega) (by rfl) passE (pa_cons (pv 0) pa_nil)) (pa_cons (pv 3) pa_nil)))))) pss_nil)
  (pss_one (ps_ret (pe_callV (k := kJ) hr (by omega) (pe_ix ix_kdict (pe_glob (v := .ref a_PLACES) rfl c_PLACES rfl) (pv 1) (fun _ _ => rfl)) passE (pa_cons (pv 0) (pa_cons (pe_cal c_matrix hr (by first | decide | omega) (by rfl) passE (pa_cons (pv 0) pa_nil)) (pa_cons (pv 3) pa_nil))))))))), ?_⟩
  · rintro vs H Q E ⟨k, nv, v, n, ties, says, rfl, _⟩
    rfl
  · obtain ⟨k, nv, v, n, ties, says, rfl, hN, hn, hg, q⟩ := h
    refine ⟨_, rfl, nv, netD n ties, rfl, dp_net hN, fun _ H0 s0 => ?_, fun e => by rw [isNetD_net.mpr ⟨hn, hg⟩] at e; cases e⟩
    have hz : Dp K H0 (.str (kd k)) (.str (kd k)) := .str _
    refine ⟨_, rfl, _, .ty "str", .type (tyName _), .type "str", _, rfl, .ty _, tyX_of hz, kit_ty (kit_isi _ "str" (by simp)), ?_⟩
    rw [isi_str]
    refine ⟨_, rfl, ifB (fun c => by cases c) (fun _ => ?_)⟩
    obtain ⟨es, m, D⟩ := hD
    obtain ⟨_, _, u0, _, _, hns, _⟩ := hS k
    refine ⟨_, rfl, a_STORIES, kd k, es, m, u0, rfl, rfl, D, hns, _, rfl, iteF ?_⟩
    have hN0 := hN.keep (sKt s0)
    have hmt : ∀ p ∈ ties, p.1 < n ∧ p.2 < n := fun p hp => ⟨by have := hg.1 p hp; omega, (hg.1 p hp).2⟩
    cases says with
    | true =>
      refine ⟨_, rfl, _, rfl, iteT ?_⟩
      refine ⟨_, rfl, a_STORIES, kd k, .ref (fs k), rfl, rfl, hS k, ns k, fs k, spS k, rfl, hfs k, c_S k, ?_⟩
      refine ⟨_, rfl, _, rfl, nv, n, ties, rfl, hN0, by omega, hmt, fun mm rows H2 s2 nm _ hM => ?_⟩
      exact ⟨_, rfl, q H2 mm rows (s0.trans s2) (hN0.keep (sKt s2)) hM⟩
    | false =>
      refine ⟨_, rfl, _, rfl, iteF ?_⟩
      refine ⟨_, rfl, a_PLACES, kd k, .ref (fp k), rfl, rfl, hP k, np k, fp k, spP k, rfl, hfp k, c_P k, ?_⟩
      refine ⟨_, rfl, _, rfl, nv, n, ties, rfl, hN0, by omega, hmt, fun mm rows H2 s2 nm _ hM => ?_⟩
      exact ⟨_, rfl, q H2 mm rows (s0.trans s2) (hN0.keep (sKt s2)) hM⟩
end
end Ns
/-! Own layer: the law of equal stretches. -/
namespace Ns
open PySem PySem.Spec PyProof.Rows L2
local macro_rules | `(tactic| walk_at "look") => `(tactic| first | assumption | exact upd_same | (refine (upd_ne (by first | assumption | exact Ne.symm (by assumption))).trans ?_; walk_at "look"))
local macro_rules | `(tactic| walk_at "cond") => `(tactic| first | assumption | omega | (dsimp only; omega) | exact ⟨by omega, by omega⟩ | decide | exact ⟨by decide, by decide, by decide⟩ | exact .inr ⟨by decide, by decide⟩ | exact .inl ⟨by decide, by decide⟩ | exact .inr ⟨by omega, by omega⟩ | exact .inl ⟨by omega, by omega⟩)
local macro_rules | `(tactic| walk_at "rd1") => `(tactic| first
  | refine ⟨_, rfl, ?_⟩
  | refine ⟨_, _, rfl, rfl, ?_⟩
  | refine ⟨rfl, ?_⟩
  | refine ⟨_, _, rfl, rfl, (by walk_at "cond"), ?_⟩
  | refine ⟨_, _, _, _, rfl, rfl, SqL.of (by walk_at "look"), rfl, ?_⟩
  | refine ⟨_, _, _, _, rfl, rfl, SqT.of (by walk_at "look"), rfl, ?_⟩
  | refine ⟨_, _, _, _, rfl, rfl, (by walk_at "look"), rfl, ?_⟩
  | refine .inl ⟨_, rfl, ?_⟩
  | refine ⟨.inl ⟨rfl, _, SqL.of (by walk_at "look")⟩, ?_⟩
  | refine ⟨_, _, rfl, ⟨by omega, by omega, by omega, by omega⟩, ?_⟩
  | refine ⟨_, rfl, (by omega), (by omega), ?_⟩
  | refine And.intro (by walk_at "cond") ?_)
local macro_rules | `(tactic| walk_at "rd") => `(tactic| repeat (walk_at "rd1"))
abbrev N_law : List Str := ["script", "box", "net", "told", "says", "paper"]
theorem sc_law : FnScope N_law ["script"] (defScope s_law) := ⟨rfl, rfl, rfl, by decide +kernel, rfl, by decide +kernel, by decide +kernel⟩
section
variable {P : Program} {w : World} {K : PySem.W.Frag} {mg : Str → Option Value} {base : Heap}
def kdQ : Unit → Str := fun _ => "equal"
def YesQ : Unit → Nat → List (Nat × Nat) → Prop := fun _ n ties => YesS n (tieT ties) ∧ NoClaw n (tieT ties)
theorem isof_Q (k : Unit) (v : V) (n : Nat) (ties : List (Nat × Nat)) (H : Hp) (Q : VK) (E : XK) (hN : Net H v n ties) (hn : n ≤ 40) (hg : Good n ties) (q : ∀ (t : Addr) (ans : Bool) (u : V) (H' : Hp), Same H H' → H' t = some (.tup [.bl ans, u]) → (ans = true ↔ YesQ k n ties) → Q (.ref t) H') : sp_equal_of [v] H Q E :=
  ⟨v, n, ties, rfl, hN, hn, hg, fun t H' s' ⟨ans, s, d, ht, _, hk, _⟩ => q t ans _ H' s' ht hk⟩
def sp_law (K : PySem.W.Frag) : Sp := fun vs H Q _ => ∃ (a : Addr) (ns : List Int), vs = [.ref a] ∧ SqL K H a (ns.map V.int) ∧ ns.length ≤ 63 ∧ ∀ H', Q (.bl true) H'
theorem ok_law {f : Addr} {fd : FuncData} (F : FnP K "law" s_law f fd) (B : Bi mg) (c_law_box : Cal P w K mg base 1 "_law_box" (sp_box K)) (c_law_net : Cal P w K mg base 4 "_law_net" sp_anet) (c_tell : Cal P w K mg base 9 "tell" (sp_tellG Unit kdQ fun _ => sp_equal_of)) (c_is_of : Cal P w K mg base 10 "is_of" (sp_isofG Unit kdQ YesQ))
    (c_judge : Cal P w K mg base 8 "judge" (sp_judgeG Unit kdQ (fun _ => sp_storyQ K) fun _ => sp_clawD K)) (c_law_is_equal : Cal P w K mg base 2 "_law_is_equal" (sp_lequal K)) (c_law_is_clawed : Cal P w K mg base 5 "_law_is_clawed" (sp_lclaw K)) : FnOk P w K mg base (L2.CX P w) 11 f fd ["script"] (sp_law K) := by
  have nd := sc_law.nd
  refine F.ok sc_law ?_ fun cdv A' outer s H vs Q E hr h => ⟨_, (pss_cons (ps_set (i := 1) nd rfl (.inl rfl) (pe_cal c_law_box hr (by first | decide | omega) (by rfl) passE (pa_cons (pv 0) pa_nil)))
  (pss_cons (ps_set (i := 2) nd rfl (.inl rfl) (pe_cal c_law_net hr (by first | decide | omega) (by rfl) passE (pa_cons (pv 1) pa_nil)))
  (pss_cons (ps_set (i := 3) nd rfl (.inl rfl) (pe_cal c_tell hr (by first | decide | omega) (by rfl) passE (pa_cons (pv 2) (pa_cons pe_str pa_nil))))
  (pss_cons (ps_if (PW.pt (pw_or (pt_not (pt_val (pe_callB (call_isiK' (K := K) rfl) (by rfl) B.isinstance (by decide +kernel) (pa_cons (pv 3) (pa_cons (pe_bltn (v := .ty "tuple") (u := .type "tuple") (by rfl) B.tuple (by decide +kernel) rfl) pa_nil))))) (pw_or (pt_cmpR op_ne (pe_callB (call_lenK (K := K) rfl) (by rfl) B.len (by decide +kernel) (pa_cons (pv 3) pa_nil)) pe_int (nomark _)) (pw_or1 (pt_not (PW.pt (pw_or (pt_cmpR op_isBl (pe_ix (ix_tupK (K := K) rfl) (pv 3) pe_int (fun _ _ => rfl)) pe_bl (nomark _)) (pw_or1 (pt_cmpR op_isBl (pe_ix (ix_tupK (K := K) rfl) (pv 3) pe_int (fun _ _ => rfl)) pe_bl (nomark _)))))))))) (pss_one (ps_ret pe_bl)) pss_nil)
  (pss_cons (ps_asg (pv 3) (pg_tupK (K := K) (n := 2) rfl rfl (pgs_cons (pg_name (i := 4) nd rfl (.inl rfl)) (pgs_cons (pg_name (i := 5) nd rfl (.inl rfl)) pgs_nil))))
  (pss_cons (ps_if (pt_not (pt_ifExp (pt_val (pv 4)) (pt_val (pe_cal c_law_is_equal hr (by first | decide | omega) (by rfl) passE (pa_cons (pv 2) (pa_cons (pv 5) pa_nil)))) (pt_val (pe_cal c_law_is_clawed hr (by first | decide | omega) (by rfl) passE (pa_cons (pv 2) (pa_cons (pv 5) pa_nil)))))) (pss_one (ps_ret pe_bl)) pss_nil)
  (pss_cons (ps_if (PW.pt (pw_or (pt_cmpR op_ne (pe_cal c_is_of hr (by first | decide | omega) (by rfl) passE (pa_cons (pv 2) (pa_cons pe_str pa_nil))) (pv 4) (nomark _)) (pw_or1 (pt_cmpR op_notBl (pe_cal c_judge hr (by first | decide | omega) (by rfl) passE (pa_cons (pv 2) (pa_cons pe_str (pa_cons (pv 4) (pa_cons (pv 5) pa_nil))))) pe_bl (nomark _))))) (pss_one (ps_ret pe_bl)) pss_nil)
  (pss_one (ps_ret (pe_cmpR op_isBl (pe_cal c_judge hr (by first | decide | omega) (by rfl) passE (pa_cons (pv 2) (pa_cons pe_str (pa_cons (pe_not (pv 4)) (pa_cons (pv 5) pa_nil))))) pe_bl (nomark _))))))))))), ?_⟩
  · rintro vs H Q E ⟨a, ns, rfl, _⟩
    rfl
  · obtain ⟨a, ns, rfl, hS, hn, q⟩ := h
    refine ⟨_, rfl, a, ns, rfl, hS, hn, fun b l H1 s1 hb => ?_⟩
    refine ⟨_, rfl, b, l, rfl, hb, fun v n ties H2 hn hg hN k2 => ?_⟩
    have hn : n ≤ 40 := by omega
    refine ⟨_, rfl, (), v, n, ties, rfl, hN, hn, hg, fun H2' s2' hN2 => ⟨v, n, ties, rfl, hN2, hn, hg, fun t H3 s3 co => ?_⟩⟩
    obtain ⟨ans, sa, d, ht, tn, hk, st, pl⟩ := co
    have hN3 := hN2.keep (sKt s3)
    have hdp := tn.dp (K := K)
    have S : SyT (tieT ties) := ⟨fun x y => tieT_sym ties x y, fun x => tieT_irr hg x⟩
    have lD := tn_lenDs (by decide) tn
    have hd : Dp K H3 (.ref t) (.tuple [.bool ans, d]) := .tup (SqT.of ht) (.cons (.bl ans) (.cons hdp .nil))
    -- the judge's word
    have jd : ∀ {H4 : Hp} {says : Bool} {Q' : VK} {E' : XK}, Same H3 H4 → (∀ (a : Bool) H', Same H4 H' → (a = true ↔ if says then EqD n (tieT ties) d else ClawD n (tieT ties) d) → Q' (.bl a) H') → sp_judgeG Unit kdQ (fun _ => sp_storyQ K) (fun _ => sp_clawD K) [v, .str "equal", .bl says, .ref sa] H4 Q' E' := fun {H4 says Q' E'} s4 q' => by
      refine ⟨(), v, .ref sa, n, ties, says, rfl, hN3.keep (sKt s4), hn, hg, fun H5 m rows s5 hN5 hM => ?_⟩
      have hd5 := Dp.same (s4.trans s5) _ _ hdp
      cases says with
      | true => exact ⟨v, .ref sa, m, rows, n, ties, d, rfl, hN5, hM, hn, hd5, lD, fun a H' s' ha => q' a H' (s5.trans s') ha⟩
      | false => exact ⟨v, .ref sa, m, rows, n, ties, d, rfl, hN5, hM, hn, hd5, lD, S, fun a H' s' ha => q' a H' (s5.trans s') ha⟩
    refine ⟨_, rfl, _, .ty "tuple", .type (tyName _), .type "tuple", _, rfl, .ty _, tyX_of hd, kit_ty (kit_isi _ "tuple" (by simp)), ?_⟩
    rw [isi_tuple]
    refine ⟨_, rfl, iteF ?_⟩
    refine ⟨_, rfl, _, _, rfl, .inr ⟨_, SqT.of ht, rfl⟩, rfl, _, rfl, ifNI (fun c => absurd rfl c) (fun _ => ?_)⟩
    refine ⟨_, rfl, _, _, _, _, rfl, rfl, SqT.of ht, rfl, ans, true, rfl, rfl, _, rfl, ?_⟩
    cases ans with
    | true =>
      have hst := st rfl
      refine iteT (iteF ?_)
      refine ⟨_, rfl, t, _, rfl, SqT.of ht, rfl, _, _, rfl, _, _, rfl, rfl, ?_⟩
      refine ⟨_, rfl, _, rfl, iteT ?_⟩
      refine ⟨_, rfl, _, rfl, v, .ref sa, n, ties, d, rfl, hN3, hg, hn, hdp, lD, fun a4 H4 s4 h4 => ?_⟩
      have e4 := h4.mpr hst
      subst e4
      refine ⟨_, rfl, iteF ?_⟩
      have hN4 := hN3.keep (sKt s4)
      refine ⟨_, rfl, (), v, n, ties, rfl, hN4, hn, hg, fun ans2 H5 s5 hk2 => ?_⟩
      have e : ans2 = true := hk2.mpr (hk.mp rfl)
      subst e
      have s45 := s4.trans s5
      refine ⟨_, rfl, rfl, _, rfl, iteF ?_⟩
      refine ⟨_, rfl, _, rfl, _, rfl, jd s45 fun a6 H6 s6 h6 => ?_⟩
      have e6 := h6.mpr hst
      subst e6
      refine ⟨true, true, rfl, rfl, _, rfl, iteF ?_⟩
      have s46 := s45.trans s6
      refine ⟨_, rfl, _, rfl, _, rfl, _, rfl, jd s46 fun a7 H7 s7 h7 => ?_⟩
      have e7 : a7 = false := by
        cases a7 with
        | false => rfl
        | true => exact absurd (h7.mp rfl) (eq_not_clawed hst)
      subst e7
      exact ⟨false, false, rfl, rfl, q H7⟩
    | false =>
      have hpl := pl rfl
      refine iteF ⟨_, rfl, _, _, _, _, rfl, rfl, SqT.of ht, rfl, false, false, rfl, rfl, _, rfl, iteF ?_⟩
      refine ⟨_, rfl, t, _, rfl, SqT.of ht, rfl, _, _, rfl, _, _, rfl, rfl, ?_⟩
      refine ⟨_, rfl, _, rfl, iteF ?_⟩
      refine ⟨_, rfl, _, rfl, v, .ref sa, n, ties, d, rfl, hN3, hg, hn, hdp, lD, S, fun a4 H4 s4 h4 => ?_⟩
      have e4 := h4.mpr hpl
      subst e4
      refine ⟨_, rfl, iteF ?_⟩
      have hN4 := hN3.keep (sKt s4)
      refine ⟨_, rfl, (), v, n, ties, rfl, hN4, hn, hg, fun ans2 H5 s5 hk2 => ?_⟩
      have e : ans2 = false := by
        cases ans2 with
        | false => rfl
        | true => exact absurd (hk.mpr (hk2.mp rfl)) Bool.false_ne_true
      subst e
      have s45 := s4.trans s5
      refine ⟨_, rfl, rfl, _, rfl, iteF ?_⟩
      refine ⟨_, rfl, _, rfl, _, rfl, jd s45 fun a6 H6 s6 h6 => ?_⟩
      have e6 := h6.mpr hpl
      subst e6
      refine ⟨true, true, rfl, rfl, _, rfl, iteF ?_⟩
      have s46 := s45.trans s6
      refine ⟨_, rfl, _, rfl, _, rfl, _, rfl, jd s46 fun a7 H7 s7 h7 => ?_⟩
      have e7 : a7 = false := by
        cases a7 with
        | false => rfl
        | true => exact absurd hpl (eq_not_clawed (h7.mp rfl))
      subst e7
      exact ⟨false, false, rfl, rfl, q H7⟩
end
end Ns
namespace Ns
open PySem PySem.Spec PyProof.Rows L2 LamX
section
variable {K : PySem.W.Frag} {h : Heap} {mg : Str → Option Value}
theorem at_is_number (X : K.In h) (G : h.Ns mainGlobals mg) (c : SaysX fx fn K) : At K mg "is_number" s_is_number := by
  obtain ⟨fd, F⟩ := c.def_ 0 (d := d_is_number)
  exact ⟨_, fd, F, He.glo_ok X G (c.fact 9)⟩
theorem at_is_pair (X : K.In h) (G : h.Ns mainGlobals mg) (c : SaysX fx fn K) : At K mg "is_pair" s_is_pair := by
  obtain ⟨fd, F⟩ := c.def_ 1 (d := d_is_pair)
  exact ⟨_, fd, F, He.glo_ok X G (c.fact 10)⟩
theorem at_is_net (X : K.In h) (G : h.Ns mainGlobals mg) (c : SaysX fx fn K) : At K mg "is_net" s_is_net := by
  obtain ⟨fd, F⟩ := c.def_ 2 (d := d_is_net)
  exact ⟨_, fd, F, He.glo_ok X G (c.fact 11)⟩
theorem at_check_net (X : K.In h) (G : h.Ns mainGlobals mg) (c : SaysX fx fn K) : At K mg "check_net" s_check_net := by
  obtain ⟨fd, F⟩ := c.def_ 3 (d := d_check_net)
  exact ⟨_, fd, F, He.glo_ok X G (c.fact 12)⟩
theorem at_is_point (X : K.In h) (G : h.Ns mainGlobals mg) (c : SaysX fx fn K) : At K mg "is_point" s_is_point := by
  obtain ⟨fd, F⟩ := c.def_ 4 (d := d_is_point)
  exact ⟨_, fd, F, He.glo_ok X G (c.fact 13)⟩
theorem at_check_points (X : K.In h) (G : h.Ns mainGlobals mg) (c : SaysX fx fn K) : At K mg "check_points" s_check_points := by
  obtain ⟨fd, F⟩ := c.def_ 5 (d := d_check_points)
  exact ⟨_, fd, F, He.glo_ok X G (c.fact 14)⟩
theorem at_matrix (X : K.In h) (G : h.Ns mainGlobals mg) (c : SaysX fx fn K) : At K mg "matrix" s_matrix := by
  obtain ⟨fd, F⟩ := c.def_ 6 (d := d_matrix)
  exact ⟨_, fd, F, He.glo_ok X G (c.fact 15)⟩
theorem at_opposite (X : K.In h) (G : h.Ns mainGlobals mg) (c : SaysX fx fn K) : At K mg "opposite" s_opposite := by
  obtain ⟨fd, F⟩ := c.def_ 7 (d := d_opposite)
  exact ⟨_, fd, F, He.glo_ok X G (c.fact 16)⟩
theorem at_forced (X : K.In h) (G : h.Ns mainGlobals mg) (c : SaysX fx fn K) : At K mg "forced" s_forced := by
  obtain ⟨fd, F⟩ := c.def_ 8 (d := d_forced)
  exact ⟨_, fd, F, He.glo_ok X G (c.fact 17)⟩
theorem at_forced_from (X : K.In h) (G : h.Ns mainGlobals mg) (c : SaysX fx fn K) : At K mg "forced_from" s_forced_from := by
  obtain ⟨fd, F⟩ := c.def_ 9 (d := d_forced_from)
  exact ⟨_, fd, F, He.glo_ok X G (c.fact 18)⟩
theorem at_chain (X : K.In h) (G : h.Ns mainGlobals mg) (c : SaysX fx fn K) : At K mg "_chain" s_chain := by
  obtain ⟨fd, F⟩ := c.def_ 10 (d := d_chain)
  exact ⟨_, fd, F, He.glo_ok X G (c.fact 19)⟩
theorem at_turned_round (X : K.In h) (G : h.Ns mainGlobals mg) (c : SaysX fx fn K) : At K mg "_turned_round" s_turned_round := by
  obtain ⟨fd, F⟩ := c.def_ 11 (d := d_turned_round)
  exact ⟨_, fd, F, He.glo_ok X G (c.fact 20)⟩
theorem at_arrows_of (X : K.In h) (G : h.Ns mainGlobals mg) (c : SaysX fx fn K) : At K mg "arrows_of" s_arrows_of := by
  obtain ⟨fd, F⟩ := c.def_ 12 (d := d_arrows_of)
  exact ⟨_, fd, F, He.glo_ok X G (c.fact 21)⟩
theorem at_reached (X : K.In h) (G : h.Ns mainGlobals mg) (c : SaysX fx fn K) : At K mg "reached" s_reached := by
  obtain ⟨fd, F⟩ := c.def_ 13 (d := d_reached)
  exact ⟨_, fd, F, He.glo_ok X G (c.fact 22)⟩
theorem at_traced (X : K.In h) (G : h.Ns mainGlobals mg) (c : SaysX fx fn K) : At K mg "traced" s_traced := by
  obtain ⟨fd, F⟩ := c.def_ 14 (d := d_traced)
  exact ⟨_, fd, F, He.glo_ok X G (c.fact 23)⟩
theorem at_way_off (X : K.In h) (G : h.Ns mainGlobals mg) (c : SaysX fx fn K) : At K mg "way_off" s_way_off := by
  obtain ⟨fd, F⟩ := c.def_ 15 (d := d_way_off)
  exact ⟨_, fd, F, He.glo_ok X G (c.fact 24)⟩
theorem at_long_ring (X : K.In h) (G : h.Ns mainGlobals mg) (c : SaysX fx fn K) : At K mg "long_ring" s_long_ring := by
  obtain ⟨fd, F⟩ := c.def_ 16 (d := d_long_ring)
  exact ⟨_, fd, F, He.glo_ok X G (c.fact 25)⟩
theorem at_pieces_off (X : K.In h) (G : h.Ns mainGlobals mg) (c : SaysX fx fn K) : At K mg "_pieces_off" s_pieces_off := by
  obtain ⟨fd, F⟩ := c.def_ 17 (d := d_pieces_off)
  exact ⟨_, fd, F, He.glo_ok X G (c.fact 26)⟩
theorem at_three (X : K.In h) (G : h.Ns mainGlobals mg) (c : SaysX fx fn K) : At K mg "_three" s_three := by
  obtain ⟨fd, F⟩ := c.def_ 18 (d := d_three)
  exact ⟨_, fd, F, He.glo_ok X G (c.fact 27)⟩
theorem at_stretches_of (X : K.In h) (G : h.Ns mainGlobals mg) (c : SaysX fx fn K) : At K mg "stretches_of" s_stretches_of := by
  obtain ⟨fd, F⟩ := c.def_ 19 (d := d_stretches_of)
  exact ⟨_, fd, F, He.glo_ok X G (c.fact 28)⟩
theorem at_claw (X : K.In h) (G : h.Ns mainGlobals mg) (c : SaysX fx fn K) : At K mg "_claw" s_claw := by
  obtain ⟨fd, F⟩ := c.def_ 20 (d := d_claw)
  exact ⟨_, fd, F, He.glo_ok X G (c.fact 29)⟩
theorem at_sweep (X : K.In h) (G : h.Ns mainGlobals mg) (c : SaysX fx fn K) : At K mg "_sweep" s_sweep := by
  obtain ⟨fd, F⟩ := c.def_ 21 (d := d_sweep)
  exact ⟨_, fd, F, He.glo_ok X G (c.fact 30)⟩
theorem at_places (X : K.In h) (G : h.Ns mainGlobals mg) (c : SaysX fx fn K) : At K mg "_places" s_places := by
  obtain ⟨fd, F⟩ := c.def_ 22 (d := d_places)
  exact ⟨_, fd, F, He.glo_ok X G (c.fact 31)⟩
theorem at_equal_of (X : K.In h) (G : h.Ns mainGlobals mg) (c : SaysX fx fn K) : At K mg "equal_of" s_equal_of := by
  obtain ⟨fd, F⟩ := c.def_ 23 (d := d_equal_of)
  exact ⟨_, fd, F, He.glo_ok X G (c.fact 32)⟩
theorem at_check_kind (X : K.In h) (G : h.Ns mainGlobals mg) (c : SaysX fx fn K) : AtD K mg "check_kind" s_check_kind (d_check_kind.dvs K) := by
  obtain ⟨fd, F⟩ := c.def_ 24 (d := d_check_kind)
  exact ⟨_, fd, F, He.glo_ok X G (c.fact 33)⟩
theorem at_tell (X : K.In h) (G : h.Ns mainGlobals mg) (c : SaysX fx fn K) : At K mg "tell" s_tell := by
  obtain ⟨fd, F⟩ := c.def_ 25 (d := d_tell)
  exact ⟨_, fd, F, He.glo_ok X G (c.fact 34)⟩
theorem at_is_of (X : K.In h) (G : h.Ns mainGlobals mg) (c : SaysX fx fn K) : At K mg "is_of" s_is_of := by
  obtain ⟨fd, F⟩ := c.def_ 26 (d := d_is_of)
  exact ⟨_, fd, F, He.glo_ok X G (c.fact 35)⟩
theorem at_is_tuple (X : K.In h) (G : h.Ns mainGlobals mg) (c : SaysX fx fn K) : At K mg "is_tuple" s_is_tuple := by
  obtain ⟨fd, F⟩ := c.def_ 27 (d := d_is_tuple)
  exact ⟨_, fd, F, He.glo_ok X G (c.fact 36)⟩
theorem at_are_points (X : K.In h) (G : h.Ns mainGlobals mg) (c : SaysX fx fn K) : At K mg "are_points" s_are_points := by
  obtain ⟨fd, F⟩ := c.def_ 28 (d := d_are_points)
  exact ⟨_, fd, F, He.glo_ok X G (c.fact 37)⟩
theorem at_are_numbers (X : K.In h) (G : h.Ns mainGlobals mg) (c : SaysX fx fn K) : At K mg "are_numbers" s_are_numbers := by
  obtain ⟨fd, F⟩ := c.def_ 29 (d := d_are_numbers)
  exact ⟨_, fd, F, He.glo_ok X G (c.fact 38)⟩
theorem at_is_way (X : K.In h) (G : h.Ns mainGlobals mg) (c : SaysX fx fn K) : At K mg "is_way" s_is_way := by
  obtain ⟨fd, F⟩ := c.def_ 30 (d := d_is_way)
  exact ⟨_, fd, F, He.glo_ok X G (c.fact 39)⟩
theorem at_is_ring (X : K.In h) (G : h.Ns mainGlobals mg) (c : SaysX fx fn K) : At K mg "is_ring" s_is_ring := by
  obtain ⟨fd, F⟩ := c.def_ 31 (d := d_is_ring)
  exact ⟨_, fd, F, He.glo_ok X G (c.fact 40)⟩
theorem at_is_long_ring (X : K.In h) (G : h.Ns mainGlobals mg) (c : SaysX fx fn K) : At K mg "is_long_ring" s_is_long_ring := by
  obtain ⟨fd, F⟩ := c.def_ 32 (d := d_is_long_ring)
  exact ⟨_, fd, F, He.glo_ok X G (c.fact 41)⟩
theorem at_is_rest (X : K.In h) (G : h.Ns mainGlobals mg) (c : SaysX fx fn K) : At K mg "is_rest" s_is_rest := by
  obtain ⟨fd, F⟩ := c.def_ 33 (d := d_is_rest)
  exact ⟨_, fd, F, He.glo_ok X G (c.fact 42)⟩
theorem at_story_equal (X : K.In h) (G : h.Ns mainGlobals mg) (c : SaysX fx fn K) : At K mg "story_equal" s_story_equal := by
  obtain ⟨fd, F⟩ := c.def_ 34 (d := d_story_equal)
  exact ⟨_, fd, F, He.glo_ok X G (c.fact 43)⟩
theorem at_is_way_off (X : K.In h) (G : h.Ns mainGlobals mg) (c : SaysX fx fn K) : At K mg "is_way_off" s_is_way_off := by
  obtain ⟨fd, F⟩ := c.def_ 35 (d := d_is_way_off)
  exact ⟨_, fd, F, He.glo_ok X G (c.fact 44)⟩
theorem at_place_stretches (X : K.In h) (G : h.Ns mainGlobals mg) (c : SaysX fx fn K) : At K mg "place_stretches" s_place_stretches := by
  obtain ⟨fd, F⟩ := c.def_ 36 (d := d_place_stretches)
  exact ⟨_, fd, F, He.glo_ok X G (c.fact 45)⟩
theorem at_place_equal (X : K.In h) (G : h.Ns mainGlobals mg) (c : SaysX fx fn K) : At K mg "place_equal" s_place_equal := by
  obtain ⟨fd, F⟩ := c.def_ 37 (d := d_place_equal)
  exact ⟨_, fd, F, He.glo_ok X G (c.fact 46)⟩
theorem at_judge (X : K.In h) (G : h.Ns mainGlobals mg) (c : SaysX fx fn K) : At K mg "judge" s_judge := by
  obtain ⟨fd, F⟩ := c.def_ 38 (d := d_judge)
  exact ⟨_, fd, F, He.glo_ok X G (c.fact 47)⟩
theorem at_law_box (X : K.In h) (G : h.Ns mainGlobals mg) (c : SaysX fx fn K) : At K mg "_law_box" s_law_box := by
  obtain ⟨fd, F⟩ := c.def_ 39 (d := d_law_box)
  exact ⟨_, fd, F, He.glo_ok X G (c.fact 48)⟩
theorem at_law_take (X : K.In h) (G : h.Ns mainGlobals mg) (c : SaysX fx fn K) : At K mg "_law_take" s_law_take := by
  obtain ⟨fd, F⟩ := c.def_ 40 (d := d_law_take)
  exact ⟨_, fd, F, He.glo_ok X G (c.fact 49)⟩
theorem at_law_pick (X : K.In h) (G : h.Ns mainGlobals mg) (c : SaysX fx fn K) : At K mg "_law_pick" s_law_pick := by
  obtain ⟨fd, F⟩ := c.def_ 41 (d := d_law_pick)
  exact ⟨_, fd, F, He.glo_ok X G (c.fact 50)⟩
theorem at_law_pairs (X : K.In h) (G : h.Ns mainGlobals mg) (c : SaysX fx fn K) : At K mg "_law_pairs" s_law_pairs := by
  obtain ⟨fd, F⟩ := c.def_ 42 (d := d_law_pairs)
  exact ⟨_, fd, F, He.glo_ok X G (c.fact 51)⟩
theorem at_law_fixed (X : K.In h) (G : h.Ns mainGlobals mg) (c : SaysX fx fn K) : At K mg "_law_fixed" s_law_fixed := by
  obtain ⟨fd, F⟩ := c.def_ 43 (d := d_law_fixed)
  exact ⟨_, fd, F, He.glo_ok X G (c.fact 52)⟩
theorem at_law_by (X : K.In h) (G : h.Ns mainGlobals mg) (c : SaysX fx fn K) : At K mg "_law_by" s_law_by := by
  obtain ⟨fd, F⟩ := c.def_ 44 (d := d_law_by)
  exact ⟨_, fd, F, He.glo_ok X G (c.fact 53)⟩
theorem at_law_table (X : K.In h) (G : h.Ns mainGlobals mg) (c : SaysX fx fn K) : At K mg "_law_table" s_law_table := by
  obtain ⟨fd, F⟩ := c.def_ 45 (d := d_law_table)
  exact ⟨_, fd, F, He.glo_ok X G (c.fact 54)⟩
theorem at_law_built (X : K.In h) (G : h.Ns mainGlobals mg) (c : SaysX fx fn K) : At K mg "_law_built" s_law_built := by
  obtain ⟨fd, F⟩ := c.def_ 46 (d := d_law_built)
  exact ⟨_, fd, F, He.glo_ok X G (c.fact 55)⟩
theorem at_law_net (X : K.In h) (G : h.Ns mainGlobals mg) (c : SaysX fx fn K) : At K mg "_law_net" s_law_net := by
  obtain ⟨fd, F⟩ := c.def_ 47 (d := d_law_net)
  exact ⟨_, fd, F, He.glo_ok X G (c.fact 56)⟩
theorem at_law_whole (X : K.In h) (G : h.Ns mainGlobals mg) (c : SaysX fx fn K) : At K mg "_law_whole" s_law_whole := by
  obtain ⟨fd, F⟩ := c.def_ 48 (d := d_law_whole)
  exact ⟨_, fd, F, He.glo_ok X G (c.fact 57)⟩
theorem at_law_points (X : K.In h) (G : h.Ns mainGlobals mg) (c : SaysX fx fn K) : At K mg "_law_points" s_law_points := by
  obtain ⟨fd, F⟩ := c.def_ 49 (d := d_law_points)
  exact ⟨_, fd, F, He.glo_ok X G (c.fact 58)⟩
theorem at_law_unlike (X : K.In h) (G : h.Ns mainGlobals mg) (c : SaysX fx fn K) : At K mg "_law_unlike" s_law_unlike := by
  obtain ⟨fd, F⟩ := c.def_ 50 (d := d_law_unlike)
  exact ⟨_, fd, F, He.glo_ok X G (c.fact 59)⟩
theorem at_law_is_bare_ring (X : K.In h) (G : h.Ns mainGlobals mg) (c : SaysX fx fn K) : At K mg "_law_is_bare_ring" s_law_is_bare_ring := by
  obtain ⟨fd, F⟩ := c.def_ 51 (d := d_law_is_bare_ring)
  exact ⟨_, fd, F, He.glo_ok X G (c.fact 60)⟩
theorem at_law_is_way (X : K.In h) (G : h.Ns mainGlobals mg) (c : SaysX fx fn K) : At K mg "_law_is_way" s_law_is_way := by
  obtain ⟨fd, F⟩ := c.def_ 52 (d := d_law_is_way)
  exact ⟨_, fd, F, He.glo_ok X G (c.fact 61)⟩
theorem at_law_is_bent (X : K.In h) (G : h.Ns mainGlobals mg) (c : SaysX fx fn K) : At K mg "_law_is_bent" s_law_is_bent := by
  obtain ⟨fd, F⟩ := c.def_ 53 (d := d_law_is_bent)
  exact ⟨_, fd, F, He.glo_ok X G (c.fact 62)⟩
theorem at_law_is_equal (X : K.In h) (G : h.Ns mainGlobals mg) (c : SaysX fx fn K) : At K mg "_law_is_equal" s_law_is_equal := by
  obtain ⟨fd, F⟩ := c.def_ 54 (d := d_law_is_equal)
  exact ⟨_, fd, F, He.glo_ok X G (c.fact 63)⟩
theorem at_law_is_clawed (X : K.In h) (G : h.Ns mainGlobals mg) (c : SaysX fx fn K) : At K mg "_law_is_clawed" s_law_is_clawed := by
  obtain ⟨fd, F⟩ := c.def_ 55 (d := d_law_is_clawed)
  exact ⟨_, fd, F, He.glo_ok X G (c.fact 64)⟩
theorem at_neighbours_nets (X : K.In h) (G : h.Ns mainGlobals mg) (c : SaysX fx fn K) : AtN K mg "neighbours_nets" "neighbours" s_neighbours_nets := by
  obtain ⟨fd, F⟩ := c.def_ 56 (d := d_neighbours_nets)
  exact ⟨_, fd, F, He.glo_ok X G (c.fact 65)⟩
theorem at_neighbours_arrows (X : K.In h) (G : h.Ns mainGlobals mg) (c : SaysX fx fn K) : AtN K mg "neighbours_arrows" "neighbours" s_neighbours_arrows := by
  obtain ⟨fd, F⟩ := c.def_ 57 (d := d_neighbours_arrows)
  exact ⟨_, fd, F, He.glo_ok X G (c.fact 66)⟩
theorem at_law (X : K.In h) (G : h.Ns mainGlobals mg) (c : SaysX fx fn K) : At K mg "law" s_law := by
  obtain ⟨fd, F⟩ := c.def_ 58 (d := d_law)
  exact ⟨_, fd, F, He.glo_ok X G (c.fact 67)⟩
end
theorem law_facts {P : Program} {w : World} {K : PySem.W.Frag} {h : Heap} {mg : Str → Option Value} {f : Addr} (X : K.In h) (G : h.Ns mainGlobals mg) (hfa : mg ("law" : Str) = some (.ref f)) (c0 : SaysXT fx fn ts w K) :
    ∃ fd : FuncData, (∀ (s : Shared) (v : Value), BindsTo s fd ⟨[v], []⟩ [("script", v)]) ∧ ∀ base : Heap, K.In base → base.Ns mainGlobals mg → FnOk P w K mg base (L2.CX P w) 11 f fd ["script"] (sp_law K) := by
  have c := c0.x
  obtain ⟨f2, fd, F, hm⟩ := (at_law X G c).ex
  have e := hfa.symm.trans hm
  cases e
  have b := FunD.bindsA (ps := ["script"]) F fun _ _ _ _ _ _ us hl => match us, hl with | [_], _ => rfl
  refine ⟨fd, fun s v => b s [v] rfl, fun base _ _ => ?_⟩
  have B : Bi mg := bi_of X G (c.fact 0)
  have x_BadNet : ExcC K mg "BadNet" (He.ga K "BadNet") := excC_of X G (c.fact 1)
  have x_BadKind : ExcC K mg "BadKind" (He.ga K "BadKind") := excC_of X G (c.fact 2)
  have x_BadPoint : ExcC K mg "BadPoint" (He.ga K "BadPoint") := excC_of X G (c.fact 3)
  have iM : ∃ t, mg "MOST" = some (.int 40 t) := He.int_ok X G (c.fact 4)
  obtain ⟨g_KINDS, s_KINDS⟩ := strs_ok X G (c.fact 5)
  obtain ⟨g_TELLERS, v_TELLERS⟩ := He.ba (show ((He.Fa.glo "TELLERS").ok K && He.valsB K (He.ga K "TELLERS") [("equal", .glo "equal_of")]) = true from c.fact 6)
  obtain ⟨es_TELLERS, em_TELLERS, KD_TELLERS⟩ := c0.tab 0
  have kd_TELLERS_equal : KDct K w (He.ga K "TELLERS") "equal" (.ref (He.ga K "equal_of")) := kdct_of KD_TELLERS v_TELLERS (List.mem_cons_self ..)
  obtain ⟨g_STORIES, v_STORIES⟩ := He.ba (show ((He.Fa.glo "STORIES").ok K && He.valsB K (He.ga K "STORIES") [("equal", .glo "story_equal")]) = true from c.fact 7)
  obtain ⟨es_STORIES, em_STORIES, KD_STORIES⟩ := c0.tab 1
  have kd_STORIES_equal : KDct K w (He.ga K "STORIES") "equal" (.ref (He.ga K "story_equal")) := kdct_of KD_STORIES v_STORIES (List.mem_cons_self ..)
  obtain ⟨g_PLACES, v_PLACES⟩ := He.ba (show ((He.Fa.glo "PLACES").ok K && He.valsB K (He.ga K "PLACES") [("equal", .glo "place_equal")]) = true from c.fact 8)
  obtain ⟨es_PLACES, em_PLACES, KD_PLACES⟩ := c0.tab 2
  have kd_PLACES_equal : KDct K w (He.ga K "PLACES") "equal" (.ref (He.ga K "place_equal")) := kdct_of KD_PLACES v_PLACES (List.mem_cons_self ..)
  have v_cal_neighbours := cal_neighbours (P := P) (w := w) (base := base) (at_neighbours_nets X G c) B
  have v_cal_matrix := cal_matrix (P := P) (w := w) (base := base) (at_matrix X G c) B
  have v_cal_reached := cal_reached (P := P) (w := w) (base := base) (at_reached X G c) B
  have v_cal_traced := cal_traced (P := P) (w := w) (base := base) (at_traced X G c) B
  have v_cal_is_number := cal_is_number (P := P) (w := w) (base := base) (at_is_number X G c) B
  have v_cal_is_pair := cal_is_pair (P := P) (w := w) (base := base) (at_is_pair X G c) B v_cal_is_number
  have v_cal_is_net := cal_is_net (P := P) (w := w) (base := base) (at_is_net X G c) B iM v_cal_is_number v_cal_is_pair
  have v_cal_check_net := cal_check_net (P := P) (w := w) (base := base) (at_check_net X G c) x_BadNet v_cal_is_net
  have v_cal_long_ring := cal_long_ring (P := P) (w := w) (base := base) (at_long_ring X G c) B v_cal_neighbours v_cal_matrix v_cal_reached v_cal_traced v_cal_check_net
  have v_cal_nearA := cal_nearA (P := P) (w := w) (base := base) (at_neighbours_arrows X G c) B
  have v_cal_pcoff := cal_pcoff (P := P) (w := w) (base := base) (at_pieces_off X G c) B
  have v_cal_three := cal_three (P := P) (w := w) (base := base) (at_three X G c) B v_cal_nearA v_cal_pcoff
  have v_cal_is_point := cal_is_point (P := P) (w := w) (base := base) (at_is_point X G c) B v_cal_is_number
  have v_cal_check_points := cal_check_points (P := P) (w := w) (base := base) (at_check_points X G c) B x_BadPoint v_cal_is_point
  have v_cal_way_off := cal_way_off (P := P) (w := w) (base := base) (CP := He.ga K "BadPoint") (at_way_off X G c) B v_cal_neighbours v_cal_reached v_cal_traced v_cal_check_net v_cal_check_points
  have v_cal_forced := cal_forced (P := P) (w := w) (base := base) (at_forced X G c) B
  have v_cal_ffrom := cal_ffrom (P := P) (w := w) (base := base) (at_forced_from X G c) B v_cal_forced
  have v_cal_chain := cal_chain (P := P) (w := w) (base := base) (at_chain X G c) B
  have v_cal_tround := cal_tround (P := P) (w := w) (base := base) (at_turned_round X G c) B v_cal_nearA v_cal_ffrom v_cal_chain
  have v_cal_arrows_of := cal_arrows_of (P := P) (w := w) (base := base) (at_arrows_of X G c) B v_cal_tround v_cal_nearA v_cal_ffrom
  have v_cal_opposite := cal_opposite (P := P) (w := w) (base := base) (at_opposite X G c) B v_cal_check_net
  have v_cal_stretches_of := cal_stretches_of (P := P) (w := w) (base := base) (at_stretches_of X G c) B v_cal_long_ring v_cal_three v_cal_way_off v_cal_arrows_of v_cal_opposite
  have v_cal_claw := cal_claw (P := P) (w := w) (base := base) (at_claw X G c) B v_cal_nearA
  have v_cal_sweep := cal_sweep (P := P) (w := w) (base := base) (at_sweep X G c) B
  have v_cal_places := cal_places (P := P) (w := w) (base := base) (at_places X G c) B
  have v_cal_equal_of := cal_equal_of (P := P) (w := w) (base := base) (at_equal_of X G c) B v_cal_stretches_of v_cal_claw v_cal_nearA v_cal_sweep v_cal_places
  have v_cal_is_tuple := cal_is_tuple (P := P) (w := w) (base := base) (at_is_tuple X G c) B
  have v_cal_are_numbers := cal_are_numbers (P := P) (w := w) (base := base) (at_are_numbers X G c) B v_cal_is_tuple v_cal_is_number
  have v_cal_storyQ := cal_storyQ (P := P) (w := w) (base := base) (at_story_equal X G c) B v_cal_is_tuple v_cal_is_number v_cal_are_numbers
  have v_cal_is_pointD := cal_is_pointD (P := P) (w := w) (base := base) (at_is_point X G c) B v_cal_is_number
  have v_cal_are_points := cal_are_points (P := P) (w := w) (base := base) (at_are_points X G c) B v_cal_is_pointD
  have v_cal_is_ring := cal_is_ring (P := P) (w := w) (base := base) (at_is_ring X G c) B v_cal_are_points
  have v_cal_is_long_ring := cal_is_long_ring (P := P) (w := w) (base := base) (at_is_long_ring X G c) B v_cal_is_ring
  have v_cal_is_way := cal_is_way (P := P) (w := w) (base := base) (at_is_way X G c) B v_cal_are_points
  have v_cal_is_way_off := cal_is_way_off (P := P) (w := w) (base := base) (at_is_way_off X G c) B v_cal_is_way
  have v_cal_bentD := cal_bentD (P := P) (w := w) (base := base) (at_place_stretches X G c) B v_cal_is_tuple v_cal_are_points v_cal_is_long_ring v_cal_is_way_off
  have v_cal_is_restT := cal_is_restT (P := P) (w := w) (base := base) (at_is_rest X G c) B
  have v_cal_clawD := cal_clawD (P := P) (w := w) (base := base) (at_place_equal X G c) B v_cal_bentD v_cal_is_tuple v_cal_are_points v_cal_is_restT
  have v_cal_box := cal_box (P := P) (w := w) (base := base) (at_law_box X G c) B
  have v_cal_take := cal_take (P := P) (w := w) (base := base) (at_law_take X G c) B
  have v_cal_pairs := cal_pairs (P := P) (w := w) (base := base) (at_law_pairs X G c) B
  have v_cal_by := cal_by (P := P) (w := w) (base := base) (at_law_by X G c) B v_cal_pairs
  have v_cal_pick := cal_pick (P := P) (w := w) (base := base) (at_law_pick X G c) B v_cal_take
  have v_cal_fixed := cal_fixed (P := P) (w := w) (base := base) (at_law_fixed X G c) B v_cal_pick
  have v_cal_built := cal_built (P := P) (w := w) (base := base) (at_law_built X G c) B v_cal_take v_cal_pairs v_cal_by
  have v_cal_table := cal_table (P := P) (w := w) (base := base) (at_law_table X G c) B
  have v_cal_anet := cal_anet (P := P) (w := w) (base := base) (at_law_net X G c) B v_cal_take v_cal_pairs v_cal_by v_cal_pick v_cal_fixed v_cal_built v_cal_table
  have v_cal_check_kind := cal_check_kind (P := P) (w := w) (base := base) (at_check_kind X G c) B x_BadKind
  have v_cal_tellG := cal_tellG (P := P) (w := w) (base := base) (kT := 8) (κ := Unit) (kd := kdQ) (nt := fun _ => "equal_of") (fk := fun _ => He.ga K "equal_of") (spT := fun _ => sp_equal_of) (by decide) (at_tell X G c) B v_cal_check_net v_cal_check_kind s_KINDS (fun _ => show inV (.str "equal") (kindsL.map V.str) = true by decide +kernel) (He.glo_ok X G g_TELLERS) (fun _ => kd_TELLERS_equal) (fun _ => He.glo_ok X G (c.fact 32)) (fun _ => v_cal_equal_of)
  have v_cal_isofG := cal_isofG (P := P) (w := w) (base := base) (Yes := YesQ) (at_is_of X G c) B v_cal_tellG isof_Q
  have v_cal_judgeG := cal_judgeG (P := P) (w := w) (base := base) (kJ := 7) (κ := Unit) (kd := kdQ) (ns := fun _ => "story_equal") (np := fun _ => "place_equal") (fs := fun _ => He.ga K "story_equal") (fp := fun _ => He.ga K "place_equal") (spS := fun _ => sp_storyQ K) (spP := fun _ => sp_clawD K) (by decide) (at_judge X G c) B x_BadKind v_cal_check_net v_cal_matrix (He.glo_ok X G g_STORIES) (He.glo_ok X G g_PLACES) ⟨_, _, KD_STORIES⟩ (fun _ => kd_STORIES_equal) (fun _ => He.glo_ok X G (c.fact 43)) (fun _ => kd_PLACES_equal) (fun _ => He.glo_ok X G (c.fact 46)) (fun _ => v_cal_storyQ.mono (by decide)) (fun _ => v_cal_clawD)
  have v_cal_law_whole := cal_law_whole (P := P) (w := w) (base := base) (at_law_whole X G c) B
  have v_cal_lequal := cal_lequal (P := P) (w := w) (base := base) (at_law_is_equal X G c) B v_cal_law_whole v_cal_table v_cal_pairs
  have v_cal_lpts := cal_lpts (P := P) (w := w) (base := base) (at_law_points X G c) B v_cal_law_whole
  have v_cal_lunlikeJ := cal_lunlikeJ (P := P) (w := w) (base := base) (at_law_unlike X G c) B
  have v_cal_lbare := cal_lbare (P := P) (w := w) (base := base) (at_law_is_bare_ring X G c) B v_cal_lpts v_cal_lunlikeJ v_cal_table v_cal_pairs
  have v_cal_lway := cal_lway (P := P) (w := w) (base := base) (at_law_is_way X G c) B v_cal_lpts v_cal_lunlikeJ v_cal_table
  have v_cal_lbent := cal_lbent (P := P) (w := w) (base := base) (at_law_is_bent X G c) B v_cal_lpts v_cal_lunlikeJ v_cal_lbare v_cal_lway
  have v_cal_lclaw := cal_lclaw (P := P) (w := w) (base := base) (at_law_is_clawed X G c) B v_cal_lpts v_cal_lunlikeJ v_cal_table v_cal_lbent
  exact ok_law F B v_cal_box v_cal_anet v_cal_tellG v_cal_isofG v_cal_judgeG v_cal_lequal v_cal_lclaw
end Ns
open PySem PySem.W PySem.Calls PyProof.Rows
theorem PySem.Challenge.cw_netstory_k04_equal_stretches_or_a_claw_holds : PySem.Challenge.rw_netstory_k04_equal_stretches_or_a_claw.Holds := by
  w_on; o_law
  refine HandSHeadRun.head_any (r := OpenLaw.row PySem.Challenge.rw_netstory_k04_equal_stretches_or_a_claw) (q := view (OpenLaw.row PySem.Challenge.rw_netstory_k04_equal_stretches_or_a_claw).prog [162])
    (H := Ns.hk) (ob := Ns.ob) (M := 20000) (loose := Ns.loose) (kwd := [])
    (d := HandSHeadRun.topDef (OpenLaw.row PySem.Challenge.rw_netstory_k04_equal_stretches_or_a_claw).prog 162) Ns.ob_eq
    (by kernel_rfl) (fun s => by kernel_rfl) Ns.head_run (by kernel_rfl) (by kernel_rfl) (by kernel_rfl)
    (by rfl) (by first | assumption | decide +kernel) (by decide +kernel)
    ⟨rfl, rfl, rfl, rfl, rfl, by decide +kernel⟩ ?hw ?hc
  case hw => w_witness2
  case hc =>
    refine Ns.end_walk (l := PySem.Challenge.rw_netstory_k04_equal_stretches_or_a_claw) (n := 63) (k := 11) (x := "script")
      rfl (by decide) (by kernel_rfl) ⟨rfl, by decide, by decide⟩ ?F
    rintro w mg fa h ⟨K, KX, c⟩ G hmg0
    have hmg : mg ("law" : PySem.Str) = some (.ref fa) := by
      have e : (HandSHeadRun.topDef (OpenLaw.row PySem.Challenge.rw_netstory_k04_equal_stretches_or_a_claw).prog 162).name = ("law" : PySem.Str) := by kernel_rfl
      rw [← e]
      exact hmg0
    obtain ⟨fd, hb, hF⟩ := Ns.law_facts (P := (PySem.Challenge.rw_netstory_k04_equal_stretches_or_a_claw).prog) (w := w) KX G hmg c
    exact ⟨K, fd, Ns.sp_law K, KX, hb, fun H a ns hl hS => ⟨a, ns, rfl, hS, hl, fun _ => rfl⟩, hF⟩
