import PyProof.Rows.All
import Wide.All
import OpenK.AllK
import Wide.FinOn
import KE.KStateDown
import Lean
import HandS.ForMost
import HandS.ForExc
import HandS.Deep
import HandS.Defaults
import HandS.IsInst
import HandS.More
import HandS.Flow
import HandS.SetKeys
import HandS.Strs
import HandS.Sort
import HandS.SortInts
import HandS.SortRule
import HandS.TupAny
import HandS.TupLe
import HandS.Conv
import HandS.Rev
import HandS.DictTup
import HandS.RaiseOp
import HandS.Head0
import HandS.Head1
import HandS.Head2
import HandS.HeadEnd
import HandS.HeadHook1
import HandS.HeadHook2
import HandS.Codes
import HandS.HeadHook3
import HandS.WrittenGet
import KE.KDictPairs
import HandS.Lambda
import HandS.EndTab
import KE.SortKeyHeap
import KE.KSortKey
import KE.KSetDisp
import HandS.Set
import PyProof.SetRoads
import KE.KNestM
import HandS.Walk
import KE.GoesMore
import HandS.Style
import HandS.SetFor
import KE.KDictCopyH
import HandS.Dict
import PyProof.DictTable
import HandS.DictComp
import PySem.Challenge.RW_netstory_k20_trees_as_they_were_built
set_option Elab.async false
set_option linter.all false
set_option maxRecDepth 100000
set_option maxHeartbeats 0
/-! Own layer A: chains of three comparisons, three names at once, calls of defs that may raise, facts by any test. -/
namespace Ns
open PySem PySem.Spec PyProof.Rows L2
section
variable {X : Cx} {a b c d : Expr} {ta tb tc td : TE} {pos : Pos}
def tChain3 (r r' r2 : R2) (ta tb tc td : TE) : TE := fun σ H Q => ta σ H fun x H1 => tb σ H1 fun y H2 => r x y H2 fun z H3 => ∃ k, z = .bl k ∧
  (if k = true then tc σ H3 fun y' H4 => r' y y' H4 fun z' H5 => ∃ k', z' = .bl k' ∧ (if k' = true then td σ H5 fun y2 H6 => r2 y' y2 H6 Q else Q (.bl false) H5) else Q (.bl false) H3)
theorem pe_chain3 {op op' op2 : CmpOp} {r r' r2 : R2} (ho : OpR X (compareOp op) r) (ho' : OpR X (compareOp op') r') (ho2 : OpR X (compareOp op2) r2) (ha : PE X a ta) (hb : PE X b tb) (hc : PE X c tc) (hd : PE X d td)
    (hm : lastMarks [op, op', op2] [b, c, d] = false := by with_unfolding_all rfl) : PE X (.Compare a [op, op', op2] [b, c, d] pos) (tChain3 r r' r2 ta tb tc td) := by
  refine ⟨fun pins s σ H Q I h => ?_⟩
  refine Compare_chain (thn (ha.run pins s σ H _ I h) fun v s1 ⟨x, H1, I1, r1, q1⟩ => chain_link (thn (hb.run pins s1 σ H1 _ I1 q1) fun u s2 ⟨y, H2, I2, r2', q2⟩ =>
    thn (ho pins s2 σ H2 x y v u _ I2 r1 r2' q2) fun d s3 ⟨z, H3, I3, r3, k, e, q3⟩ => ?_)) hm
  subst e
  cases r3
  refine wpAny_truthy_bool ?_
  cases k with
  | false => exact ite_ff ⟨.bl false, H3, I3, rfl, q3⟩
  | true =>
    refine ite_tt (chain_link (thn (hc.run pins s3 σ H3 _ I3 q3) fun u' s4 ⟨y', H4, I4, r4, q4⟩ => thn (ho' pins s4 σ H4 y y' u u' _ I4 r2' r4 q4) fun d' s5 ⟨z', H5, I5, r5, k', e', q5⟩ => ?_))
    subst e'
    cases r5
    refine wpAny_truthy_bool ?_
    cases k' with
    | false => exact ite_ff ⟨.bl false, H5, I5, rfl, q5⟩
    | true => exact ite_tt (chain_last (thn (hd.run pins s5 σ H5 _ I5 q5) fun w' s6 ⟨z6, H6, I6, r6, q6⟩ => ho2 pins s6 σ H6 y' z6 u' w' Q I6 r4 r6 q6))
theorem pt_chain3 {op op' op2 : CmpOp} {r r' r2 : R2} (ho : OpR X (compareOp op) r) (ho' : OpR X (compareOp op') r') (ho2 : OpR X (compareOp op2) r2) (ha : PE X a ta) (hb : PE X b tb) (hc : PE X c tc) (hd : PE X d td)
    (hm : lastMarks [op, op', op2] [b, c, d] = false := by with_unfolding_all rfl) : PT X (.Compare a [op, op', op2] [b, c, d] pos) (tTest (tChain3 r r' r2 ta tb tc td)) := by
  refine ⟨fun pins s σ H Q I h => ?_⟩
  refine isTrue_chain (thn (ha.run pins s σ H _ I h) fun v s1 ⟨x, H1, I1, r1, q1⟩ => test_link (thn (hb.run pins s1 σ H1 _ I1 q1) fun u s2 ⟨y, H2, I2, r2', q2⟩ =>
    thn (ho pins s2 σ H2 x y v u _ I2 r1 r2' q2) fun d s3 ⟨z, H3, I3, r3, k, e, q3⟩ => ?_)) hm
  subst e
  cases r3
  refine wpAny_truthy_bool ?_
  cases k with
  | false =>
    obtain ⟨k', e', q'⟩ := q3
    cases e'
    exact ite_ff ⟨H3, I3, q'⟩
  | true =>
    refine ite_tt (test_link (thn (hc.run pins s3 σ H3 _ I3 q3) fun u' s4 ⟨y', H4, I4, r4, q4⟩ => thn (ho' pins s4 σ H4 y y' u u' _ I4 r2' r4 q4) fun d' s5 ⟨z', H5, I5, r5, k', e', q5⟩ => ?_))
    subst e'
    cases r5
    refine wpAny_truthy_bool ?_
    cases k' with
    | false =>
      obtain ⟨k2, e2, q2⟩ := q5
      cases e2
      exact ite_ff ⟨H5, I5, q2⟩
    | true =>
      refine ite_tt (test_last (thn (hd.run pins s5 σ H5 _ I5 q5) fun w' s6 ⟨z6, H6, I6, r6, q6⟩ => thn (ho2 pins s6 σ H6 y' z6 u' w' _ I6 r4 r6 q6) fun d7 s7 ⟨z7, H7, I7, r7, k2, e2, q7⟩ => ?_))
      subst e2
      cases r7
      exact wpAny_truthy_bool ⟨H7, I7, q7⟩
end
/-! ### a, b, c = x, y, z -/
section
variable {X : Cx} {pos : Pos}
def tPar3 (i j l : Nat) (ta : TA) : TS := fun D σ H => ta σ H fun vs H1 => ∃ u v w, vs = [u, v, w] ∧ D.nx (((σ.set i (some u)).set j (some v)).set l (some w)) H1
theorem ps_par3 {i j l : Nat} {x y z : Str} {a b c : Expr} {ta : TA} {px py pz pt : Pos} {kt k2 pt2} (hc : X.calm = true) (hN : X.N.Nodup) (hi : X.N[i]? = some x) (hj : X.N[j]? = some y) (hl : X.N[l]? = some z) (hij : i ≠ j) (hil : i ≠ l) (hjl : j ≠ l)
    (hx : X.env.scope.names.lookup x = some .local) (hy : X.env.scope.names.lookup y = some .local) (hz : X.env.scope.names.lookup z = some .local) (ha : PA X [a, b, c] ta)
    (hw : swappedStores [.Tuple [.Name x px, .Name y py, .Name z pz] kt pt] (.Tuple [a, b, c] k2 pt2) X.env = pure (some [x, y, z]))
    (hs : swapsWithSole [.Tuple [.Name x px, .Name y py, .Name z pz] kt pt] (.Tuple [a, b, c] k2 pt2) pos.line X.env = pure false := by rfl) :
    PS X (.Assign [.Tuple [.Name x px, .Name y py, .Name z pz] kt pt] (.Tuple [a, b, c] k2 pt2) pos) (tPar3 i j l ta) := by
  refine ⟨fun pins s σ H D I h => ?_⟩
  rw [exec_Assign_arm]
  refine wpAny_bind (wpAny_standAt ?_)
  rw [hs]
  refine wpAny_bind (wpAny_pure ?_)
  rw [if_neg (by decide)]
  refine wpAny_bind (Tuple_ (thn (ha.run _ pins s σ H _ I h) fun us s1 ⟨vs, H1, I1, r1, q1⟩ => ?_))
  obtain ⟨t, v, w, e1, q1⟩ := q1
  subst e1
  obtain ⟨u0, u1, u2, rfl, rt, rv, rw'⟩ : ∃ u0 u1 u2, us = [u0, u1, u2] ∧ RelV t u0 ∧ RelV v u1 ∧ RelV w u2 := by
    cases r1 with
    | cons p q =>
      cases q with
      | cons p' q' =>
        cases q' with
        | cons p2 q2 =>
          cases q2
          exact ⟨_, _, _, rfl, p, p', p2⟩
  refine wpAny_newObj_type ?_ (by show 3 ≤ sizeLine; decide)
  have I2 : Inv X pins σ H1 { s1 with heap := s1.heap.push { cls := .type "tuple", data := .seq [u0, u1, u2].toArray } } := I1.kept (t' := s1.toks) fun b o e => Heap.get?_push_of_some _ e
  rw [hw]
  refine wpAny_bind (wpAny_pure ?_)
  show wpAny (model X.prog X.w) X.A (do rule "assign.swapped-stores"; let items ← unpackItems (.ref s1.heap.objs.size) 3 none; assignInOrder [fun v => bindName X.env z v, fun v => bindName X.env y v, fun v => bindName X.env x v] items.reverse; pure Flow.next) _ _ _
  refine wpAny_bind (wpAny_rule (wpAny_bind (unpackItems_tuple (items := #[u0, u1, u2]) (I.ok.hd hc) (IsTup.new s1.heap _) fun h' hx' => ?_)))
  have I3 := I2.kept (h' := h') (t' := s1.toks) fun b o e => hx' b o (Nat.ne_of_lt (Heap.lt_size e)) e
  show wpAny _ _ (assignInOrder [fun v => bindName X.env z v, fun v => bindName X.env y v, fun v => bindName X.env x v] [u2, u1, u0] >>= fun _ => pure Flow.next) _ _ _
  refine wpAny_bind (assignInOrder_cons (wpAny_bindName (store_ok I3 hN hl (.inl hz) rw' (fun s2 I4 => ?_) (.inr hz))))
  refine assignInOrder_cons (wpAny_bindName (store_ok I4 hN hj (.inl hy) rv (fun s3 I5 => ?_) (.inr hy)))
  refine assignInOrder_cons (wpAny_bindName (store_ok I5 hN hi (.inl hx) rt (fun s4 I6 => assignInOrder_nil (wpAny_pure ?_)) (.inr hx)))
  have e : ((σ.set l (some w)).set j (some v)).set i (some t) = ((σ.set i (some t)).set j (some v)).set l (some w) := by
    rw [List.set_comm _ _ (Ne.symm hij), List.set_comm _ _ (Ne.symm hil), List.set_comm _ _ (Ne.symm hjl)]
  rw [e] at I6
  exact ⟨_, H1, I6, q1⟩
end
/-! ### a def of the module by its name: what it may let out is CX -/
section
variable {P : Program} {w : World} {K : PySem.W.Frag} {mg : Str → Option Value} {base : Heap}
/-- the module's name x is a def that keeps the promise sp, at level k -/
structure Cal (P : Program) (w : World) (K : PySem.W.Frag) (mg : Str → Option Value) (base : Heap) (k : Nat) (x : Str) (sp : Sp) : Prop where
  ex : ∃ (f : Addr) (fd : FuncData) (ps : List Str), FnOk P w K mg base (L2.CX P w) k f fd ps sp ∧ mg x = some (.ref f) ∧ PySem.W.keepIn K (.ref f) = true ∧ Binds K fd ps []
abbrev FnP (K : PySem.W.Frag) (x : Str) (st : Stmt) (f : Addr) (fd : FuncData) : Prop := FunD K x x (defArgs st) (defBody st) (defScope st) [] [] f fd
/-- where the def st stands under the name x -/
structure At (K : PySem.W.Frag) (mg : Str → Option Value) (x : Str) (st : Stmt) : Prop where
  ex : ∃ (f : Addr) (fd : FuncData), FnP K x st f fd ∧ mg x = some (.ref f)
theorem At.cal {x : Str} {st : Stmt} {N ps : List Str} {k : Nat} {sp : Sp} (F : At K mg x st) (S : FnScope N ps (defScope st))
    (hb : ∀ (kV doc pm : Value) (an : Option Addr) (cdv ct : Value) (us : List Value), us.length = ps.length → bindArgs (PySem.W.fnOf x x (defArgs st) (defBody st) (defScope st) .none kV doc pm an cdv ct) ⟨us, []⟩ = pure (ps.zip us))
    (len : ∀ vs H Q E, sp vs H Q E → vs.length = ps.length)
    (hbody : ∀ (f : Addr) (cdv : Value) (A : Around) (outer : List Env) (s : Shared) (H : Hp) (vs : List V) (Q : VK) (E : XK), Room k (A.deeper (envOfC x (defScope st) s.heap.objs.size f cdv)) → sp vs H Q E →
      ∃ t, PSs (cxOf (L2.CX P w) P w K mg base N x (defScope st) f cdv A outer s H E) (defBody st) t ∧ t { nx := fun _ H' => Q .non H', rt := Q } (start N vs) H) : Cal P w K mg base (k + 1) x sp := by
  obtain ⟨f, fd, F, hm⟩ := F.ex
  exact ⟨f, fd, ps, F.ok S len (hbody f), hm, F.kp, F.bindsN hb⟩
theorem Cal.mono {j k : Nat} {x : Str} {sp : Sp} (c : Cal P w K mg base j x sp) (h : j ≤ k) : Cal P w K mg base k x sp := by
  obtain ⟨f, fd, ps, F, a, b, d⟩ := c.ex
  exact ⟨f, fd, ps, F.mono h, a, b, d⟩
theorem Cal.imp {k : Nat} {x : Str} {sp sp' : Sp} (c : Cal P w K mg base k x sp) (h : ∀ vs H Q E, sp' vs H Q E → sp vs H Q E) : Cal P w K mg base k x sp' := by
  obtain ⟨f, fd, ps, F, a, b, d⟩ := c.ex
  exact ⟨f, fd, ps, F.imp h, a, b, d⟩
end
section
variable {X : Cx} {k j : Nat} {x : Str} {sp : Sp} {E : XK} {p pos : Pos} {e : Expr} {es : List Expr} {t : TA}
theorem pe_cal (F : Cal X.prog X.w X.K X.mg X.base k x sp) (hr : Room j X.A) (hk : k ≤ j) (hg : Gl X x) (hx : Passes (L2.CX X.prog X.w) X E) (ha : PA X (e :: es) t) (hdb : (x == ("__debug__" : Str)) = false := by decide)
    (he : starEach (e :: es) X.env = (false, eval e X.env) :: starEach es X.env := by rfl) (hpl : (backTo pos (starEach es X.env)).any (·.1) = false := by rfl) :
    PE X (.Call (.Name x p) (e :: es) [] pos) (tCall sp [] E t) := by
  obtain ⟨f, fd, ps, G, hm, kp, b⟩ := F.ex
  exact pe_call G (hr.mono hk) hg hm kp b .nil hx ha hdb he hpl
theorem pe_cal0 (F : Cal X.prog X.w X.K X.mg X.base k x sp) (hr : Room j X.A) (hk : k ≤ j) (hg : Gl X x) (hx : Passes (L2.CX X.prog X.w) X E) (hdb : (x == ("__debug__" : Str)) = false := by decide) :
    PE X (.Call (.Name x p) [] [] pos) (tCall sp [] E tNil) := by
  obtain ⟨f, fd, ps, G, hm, kp, b⟩ := F.ex
  exact pe_call0 G (hr.mono hk) hg hm kp b .nil hx hdb
/-- what a callee raises goes on out of the def -/
theorem passE {P : Program} {w : World} {K : PySem.W.Frag} {mg : Str → Option Value} {base : Heap} {N : List Str} {qual : Str} {sc : Scope} {f : Addr} {cd : Value} {A : Around} {outer : List Env} {s : Shared} {H : Hp} {E : XK} :
    Passes (L2.CX P w) (cxOf (L2.CX P w) P w K mg base N qual sc f cd A outer s H E) E :=
  passes_call (W := fun cls d _ H => E cls d H) (takes_of rfl rfl rfl rfl) fun _ _ _ _ h => h
end
/-! ### facts of the written part by any test of one's own -/
abbrev FT := PySem.W.Frag → Bool
def obsX (fx : List FT) (fn : List He.DefD) (K : PySem.W.Frag) : He.AlD := ((fx.all fun f => f K) && fn.all fun d => d.ok K, fn.map fun d => He.fnW K d.at_)
def SaysX (fx : List FT) (fn : List He.DefD) (K : PySem.W.Frag) : Prop := obsX fx fn K = He.valD fn
def obsXG (n : Nat) (fx : List FT) (fn : List He.DefD) (g : Addr → Option Obj) : He.AlD := obsX fx fn (He.frG g (He.asD g n))
def hookX (n : Nat) (fx : List FT) (fn : List He.DefD) : PySem.W.Hook where
  α := He.AlD
  obs := fun s => obsXG n fx fn s.heap.get?
  val := fun _ => He.valD fn
  says := fun _ h => ∃ K : PySem.W.Frag, K.In h ∧ SaysX fx fn K
  of := fun _ _ e => ⟨_, He.frG_in, e⟩
  keeps := fun _ _ _ ⟨K, hK, c⟩ k => ⟨K, PySem.W.Frag.In.keeps hK k, c⟩
theorem obsXG_eq {n : Nat} {fx : List FT} {fn : List He.DefD} {g : Addr → Option Obj} {s : Shared} (h : ∀ a, g a = s.heap.get? a) : obsXG n fx fn g = (hookX n fx fn).obs s := by
  have e : g = s.heap.get? := funext h
  rw [e] <;> rfl
section
variable {fx : List FT} {fn : List He.DefD} {K : PySem.W.Frag}
theorem SaysX.fact (c : SaysX fx fn K) (i : Nat) {f : FT} (h : fx[i]? = some f := by rfl) : f K = true := by
  have c1 := (He.ba (show ((fx.all fun f => f K) && fn.all fun d => d.ok K) = true from congrArg (fun z : He.AlD => z.1) c)).1
  exact List.all_eq_true.mp c1 f (List.mem_of_getElem? h)
theorem SaysX.def_ (c : SaysX fx fn K) (i : Nat) {d : He.DefD} (h : fn[i]? = some d := by rfl) : ∃ fd, FunD K d.name d.qual d.params d.body d.scope (d.dvs K) (d.kws K) (He.fAd K d.at_) fd := by
  have c2 := (He.ba (show ((fx.all fun f => f K) && fn.all fun d => d.ok K) = true from congrArg (fun z : He.AlD => z.1) c)).2
  have e : fn.map (fun d => He.fnW K d.at_) = fn.map He.DefD.val := congrArg (fun z : He.AlD => z.2) c
  have e2 : (fn.map fun d => He.fnW K d.at_)[i]? = (fn.map He.DefD.val)[i]? := by rw [e]
  rw [List.getElem?_map, List.getElem?_map, h] at e2
  exact He.DefD.funD (Option.some.inj e2) (List.all_eq_true.mp c2 d (List.mem_of_getElem? h))
end
end Ns
namespace Ns
open PySem PySem.Spec PyProof.Rows L2
/-! ### built-in names that the text leaves free -/
structure Bi (mg : Str → Option Value) : Prop where
  abs : mg "abs" = none
  int_ : mg "int" = none
  len : mg "len" = none
  range : mg "range" = none
  tuple : mg "tuple" = none
  list : mg "list" = none
  dict_ : mg "dict" = none
  set_ : mg "set" = none
  str_ : mg "str" = none
  bool : mg "bool" = none
  sorted : mg "sorted" = none
  min : mg "min" = none
  max : mg "max" = none
  sum : mg "sum" = none
  any : mg "any" = none
  all : mg "all" = none
  isinstance : mg "isinstance" = none
  enumerate : mg "enumerate" = none
  zip : mg "zip" = none
  reversed : mg "reversed" = none
def biNames : List Str := ["abs", "int", "len", "range", "tuple", "list", "dict", "set", "str", "bool", "sorted", "min", "max", "sum", "any", "all", "isinstance", "enumerate", "zip", "reversed"]
def freeT (x : Str) : FT := fun K => (He.Fa.free x).ok K
def biT : FT := fun K => biNames.all fun x => freeT x K
theorem bi_of {K : PySem.W.Frag} {h : Heap} {mg : Str → Option Value} (X : K.In h) (G : h.Ns mainGlobals mg) (c : biT K = true) : Bi mg := by
  have f : ∀ x ∈ biNames, mg x = none := fun x hx => He.free_ok X G (List.all_eq_true.mp c x hx)
  exact ⟨f _ (by simp [biNames]), f _ (by simp [biNames]), f _ (by simp [biNames]), f _ (by simp [biNames]), f _ (by simp [biNames]), f _ (by simp [biNames]), f _ (by simp [biNames]), f _ (by simp [biNames]), f _ (by simp [biNames]), f _ (by simp [biNames]),
    f _ (by simp [biNames]), f _ (by simp [biNames]), f _ (by simp [biNames]), f _ (by simp [biNames]), f _ (by simp [biNames]), f _ (by simp [biNames]), f _ (by simp [biNames]), f _ (by simp [biNames]), f _ (by simp [biNames]), f _ (by simp [biNames])⟩
/-- a loop's own errors leave the def -/
theorem passOwn {CX : CXT} {P : Program} {w : World} {K : PySem.W.Frag} {mg : Str → Option Value} {base : Heap} {N : List Str} {qual : Str} {sc : Scope} {f : Addr} {cd : Value} {A : Around} {outer : List Env} {s : Shared} {H : Hp} {E : XK} :
    PassesOwn (model (cxOf CX P w K mg base N qual sc f cd A outer s H E).prog (cxOf CX P w K mg base N qual sc f cd A outer s H E).w) (cxOf CX P w K mg base N qual sc f cd A outer s H E).A (cxOf CX P w K mg base N qual sc f cd A outer s H E).env (cxOf CX P w K mg base N qual sc f cd A outer s H E).xe := PassesOwn.leaving
theorem hu65 {A : Around} {k : Nat} (hr : Room k A) : A.units + 65 < cLine := by have := hr.un; omega
end Ns
namespace Ns
open PySem PySem.Spec PyProof.Rows L2
/-! ### ways of a test -/
theorem ifD {p : Prop} [Decidable p] {A B : Prop} (h1 : p → A) (h2 : ¬ p → B) : if decide p = true then A else B := by
  by_cases h : p
  · rw [if_pos (decide_eq_true h)]
    exact h1 h
  · rw [if_neg (by simpa using h)]
    exact h2 h
theorem ifI {i j : Int} {A B : Prop} (h1 : i = j → A) (h2 : i ≠ j → B) : if decide (V.int i = V.int j) = true then A else B :=
  ifD (fun h => h1 (V.int.inj h)) fun h => h2 fun e => h (congrArg V.int e)
theorem ifNI {i j : Int} {A B : Prop} (h1 : i ≠ j → A) (h2 : i = j → B) : if (!decide (V.int i = V.int j)) = true then A else B := by
  by_cases h : i = j
  · rw [decide_eq_true (congrArg V.int h)]
    exact iteF (h2 h)
  · rw [decide_eq_false fun e => h (V.int.inj e)]
    exact iteT (h1 h)
theorem ifB {b : Bool} {A B : Prop} (h1 : b = true → A) (h2 : b = false → B) : if b = true then A else B := by
  cases b
  · exact iteF (h2 rfl)
  · exact iteT (h1 rfl)
theorem ifN {b : Bool} {A B : Prop} (h1 : b = false → A) (h2 : b = true → B) : if (!b) = true then A else B := by
  cases b
  · exact iteT (h1 rfl)
  · exact iteF (h2 rfl)
theorem ifY {p : Prop} [Decidable p] {A B : Prop} (h : p) (h1 : A) : if decide p = true then A else B := by
  rw [if_pos (decide_eq_true h)]
  exact h1
theorem ifX {p : Prop} [Decidable p] {A B : Prop} (h : ¬ p) (h1 : B) : if decide p = true then A else B := by
  rw [if_neg (by simpa using h)]
  exact h1
end Ns
namespace Ns
open PySem PySem.Spec PyProof.Rows L2
/-! ### the rules whose reading names the written part, with that named K -/
section
variable {X : Cx} {K : PySem.W.Frag} {a b e : Expr} {es : List Expr} {ta tb te : TE} {rest : List Expr} {pos : Pos}
theorem pg_tupK {k : Nat} {t : TGs} {n : Nat} (hK : X.K = K) (hc : X.calm = true) (h : PGs X es t)
    (hn : (assignEach es X.env).length = n := by rfl) (hst : (assignEach es X.env).findIdx? (·.1) = none := by rfl) : PG X (.Tuple es k pos) (gTup K n t) := by
  subst hK
  exact pg_tup hc h hn hst
theorem ix_listK (hK : X.K = K) : IxR X (rIxL K) := by subst hK; exact ix_list
theorem ix_tupK (hK : X.K = K) : IxR X (rIxT K) := by subst hK; exact ix_tup
theorem ix_seqK (hK : X.K = K) : IxR X (rIx K) := by subst hK; exact ix_seq
theorem sl_listK (hK : X.K = K) : SlR X (rSlL K) := by subst hK; exact sl_list
theorem sl_tupAK (hK : X.K = K) : SlR X (rSlA K) := by subst hK; exact sl_tupA
theorem op_in_seqK (hK : X.K = K) : OpR X (compareOp .In) (rIn K false) := by subst hK; exact op_in_seq
theorem op_notIn_seqK (hK : X.K = K) : OpR X (compareOp .NotIn) (rIn K true) := by subst hK; exact op_notIn_seq
theorem op_inDK (hK : X.K = K) (hu : X.A.units + 65 < cLine) : OpR X (compareOp .In) (rInD K) := by subst hK; exact op_inD hu
theorem op_notInDK (hK : X.K = K) (hu : X.A.units + 65 < cLine) : OpR X (compareOp .NotIn) (rNotInD K) := by subst hK; exact op_notInD hu
theorem op_eqDK (hK : X.K = K) (hu : X.A.units + 64 < cLine) : OpR X (compareOp .Eq) (rEqD K) := by subst hK; exact op_eqD hu
theorem op_neDK (hK : X.K = K) (hu : X.A.units + 64 < cLine) : OpR X (compareOp .NotEq) (rNeD K) := by subst hK; exact op_neD hu
theorem op_ltTK (hK : X.K = K) (hu : X.A.units < cLine) : OpR X (compareOp .Lt) (rLtT K) := by subst hK; exact op_ltT hu
theorem op_leTK (hK : X.K = K) (hu : X.A.units < cLine) : OpR X (compareOp .LtE) (rLeT K) := by subst hK; exact op_leT hu
theorem op_catAK (hK : X.K = K) : OpR X (binaryOp .Add) (rCatA K) := by subst hK; exact op_catA
def rLenK (K : PySem.W.Frag) : List V → Hp → VK → Prop := fun xs H Q => ∃ x n, xs = [x] ∧ LenV K x H n ∧ Q (.int n) H
theorem call_lenK (hK : X.K = K) : CallR X (.builtin "len") (rLenK K) := by subst hK; exact call_len
def rListOfK (K : PySem.W.Frag) : List V → Hp → VK → Prop := fun xs H Q => ∃ p ys, xs = [.ref p] ∧ (SqL K H p ys ∨ SqT K H p ys) ∧ ∀ l, H l = none → Q (.ref l) (upd H l (.lst ys))
theorem call_list_ofK (hK : X.K = K) : CallR X (.type "list") (rListOfK K) := by subst hK; exact call_list_of
def rTupOfK (K : PySem.W.Frag) : List V → Hp → VK → Prop := fun xs H Q => ∃ p ys, xs = [.ref p] ∧ ((SqL K H p ys ∧ ∀ l, H l = none → Q (.ref l) (upd H l (.tup ys))) ∨ (SqT K H p ys ∧ Q (.ref p) H))
theorem call_tuple_ofK (hK : X.K = K) : CallR X (.type "tuple") (rTupOfK K) := by subst hK; exact call_tuple_of
theorem call_isiK' (hK : X.K = K) : CallR X (.builtin "isinstance") (rIsi K) := by subst hK; exact call_isi
def tTru (K : PySem.W.Frag) (ta : TE) : TT := fun σ H Q => ta σ H fun x H' => ∃ k, TruV K x H' k ∧ Q k H'
theorem pt_truthK (hK : X.K = K) (ha : PE X a ta) (he : ∀ whole, isTrue a X.env whole = (do let v ← whole; standAt a.pos; holding [v] (truthy v))) : PT X a (tTru K ta) := by subst hK; exact pt_truth ha he
theorem pe_notTK (hK : X.K = K) (ha : PE X a ta) : PE X (.UnaryOp .Not a pos) (tNotT K ta) := by subst hK; exact pe_notT ha
theorem pe_orTK (hK : X.K = K) (ha : PE X a ta) (hb : PE X (.BoolOp .Or (b :: rest) pos) tb) : PE X (.BoolOp .Or (a :: b :: rest) pos) (tOrT K ta tb) := by subst hK; exact pe_orT ha hb
theorem pe_andTK (hK : X.K = K) (ha : PE X a ta) (hb : PE X (.BoolOp .And (b :: rest) pos) tb) : PE X (.BoolOp .And (a :: b :: rest) pos) (tAndT K ta tb) := by subst hK; exact pe_andT ha hb
theorem pi_listK {tg : Expr} (hK : X.K = K) (hl : PE X e te) : PI X tg e (iList K te) := by subst hK; exact pi_list hl
theorem pi_tupK {tg : Expr} (hK : X.K = K) (hl : PE X e te) : PI X tg e (iTup K te) := by subst hK; exact pi_tup hl
theorem pi_enumK {t : TA} {p tpos : Pos} {elts : List Expr} {kk : Nat} (hK : X.K = K) (hg : Gl X "enumerate") (hm : X.mg "enumerate" = none) (ha : PA X [e] t) (hs : starEach [e] X.env = [(false, eval e X.env)] := by rfl) :
    PI X (.Tuple elts kk tpos) (.Call (.Name "enumerate" p) [e] [] pos) (iEnum K t) := by subst hK; exact pi_enum hg hm ha hs
theorem mt_joinK (hK : X.K = K) : MtR X "str.join" (fun x xs H Q => ∃ a p, ∃ ys : List Str, x = .str a ∧ xs = [.ref p] ∧ (SqL K H p (ys.map V.str) ∨ SqT K H p (ys.map V.str)) ∧
      (ys.map (·.length)).sum + ys.length * a.length ≤ 16777216 ∧ Q (.str (Txt.join a ys)) H) := by subst hK; exact mt_join
theorem pe_joinK {o : Expr} {to : TE} {apos : Pos} (hK : X.K = K) (ho : PE X o to) (he : PE X e te) (hs : starEach [e] X.env = [(false, eval e X.env)] := by rfl) (hbase : attributeBase o "join" X.env (eval o X.env) = eval o X.env := by rfl) (hline : (apos.endLine == pos.line) = true := by rfl) :
    PE X (.Call (.Attribute o "join" apos) [e] [] pos) (tM1 (fun x xs H Q => ∃ a p, ∃ ys : List Str, x = .str a ∧ xs = [.ref p] ∧ (SqL K H p (ys.map V.str) ∨ SqT K H p (ys.map V.str)) ∧
      (ys.map (·.length)).sum + ys.length * a.length ≤ 16777216 ∧ Q (.str (Txt.join a ys)) H) to te) := by subst hK; exact pe_join ho he hs hbase hline
theorem mt_indexK (hK : X.K = K) : MtR X "list.index" (rIndex K) := by subst hK; exact mt_index
end
end Ns
namespace Ns
open PySem PySem.Spec PyProof.Rows L2
/-! ### own errors, made without arguments -/
structure ExcC (K : PySem.W.Frag) (mg : Str → Option Value) (x : Str) (C : Addr) : Prop where
  g : mg x = some (.ref C)
  ex : PySem.W.excIn K C He.veBase "ValueError.__new__" = true
  kp : PySem.W.keepIn K (.ref C) = true
  sub : PySem.W.subIn K (.ref C) (.type "BaseException") = some true
  ty : PySem.W.typeIn K (.ref C) = some (.type "type")
def excT (x : Str) : FT := fun K => (He.Fa.glo x).ok K && (He.Fa.exc x).ok K
theorem excC_of {K : PySem.W.Frag} {h : Heap} {mg : Str → Option Value} (X : K.In h) (G : h.Ns mainGlobals mg) {x : Str} (c : excT x K = true) : ExcC K mg x (He.ga K x) := by
  obtain ⟨c1, c2⟩ := He.ba c
  obtain ⟨e1, e2, e3, e4⟩ := He.exc_ok c2
  exact ⟨He.glo_ok X G c1, e1, e2, e3, e4⟩
section
variable {X : Cx} {C : Addr} {bmB : List Value} {B newId initId : String}
theorem pmk_own0 {x : Str} {p pos : Pos} (F : ExcBaseFacts B newId initId bmB) (q : PySem.W.excIn X.K C bmB newId = true) (gC : X.mg x = some (.ref C)) (kC : PySem.W.keepIn X.K (.ref C) = true) (r : Raises X (.ref C)) (hg : Gl X x)
    (hdb : (x == ("__debug__" : Str)) = false := by decide) : PMk X (.Call (.Name x p) [] [] pos) (fun _ H Q => Q (.ref C) none H) := by
  intro pins s σ H Q I h
  refine wpAny_Call_Name_kw (ld_glob I hg gC ?_ hdb)
  refine PySem.W.callWith_K0 I.kIn kC ?_
  show wpAny _ _ (call (.ref C) []) _ _ _
  obtain ⟨bm, N, nm, qn, bs, hdct, sn, sub, ab, col, dd, k0, k1, k2, k3, k5, mN, hC, hN, hni, T⟩ := exc_obj I.kIn q
  refine wpAny_call_exc_subT F T hC hN hni (fun h' e hm => ?_) (by show 0 ≤ sizeLine; omega)
  exact mk_of I hm r h (I.hok.gone hm.new)
end
end Ns

/-! Own layer Tb: tables of defs, defaults, defs under another name. -/
namespace Ns
open PySem PySem.Spec PyProof.Rows L2
/-! ### facts of the written part, with tables of text keys -/
abbrev AlX : Type := He.AlD × List (Option (List (Option (Str × Int))))
def obsXT (fx : List FT) (fn : List He.DefD) (ts : List He.Tab) (K : PySem.W.Frag) : AlX := (obsX fx fn K, ts.map fun t => He.dicW K (t.1 K))
def valXT (fn : List He.DefD) (ts : List He.Tab) (w : World) : AlX := (He.valD fn, ts.map fun t => some (He.keysIn w.params t.2))
def SaysXT (fx : List FT) (fn : List He.DefD) (ts : List He.Tab) (w : World) (K : PySem.W.Frag) : Prop := obsXT fx fn ts K = valXT fn ts w
def obsXTG (n : Nat) (fx : List FT) (fn : List He.DefD) (ts : List He.Tab) (g : Addr → Option Obj) : AlX := obsXT fx fn ts (He.frG g (He.asD g n))
def hookXT (n : Nat) (fx : List FT) (fn : List He.DefD) (ts : List He.Tab) : PySem.W.Hook where
  α := AlX
  obs := fun s => obsXTG n fx fn ts s.heap.get?
  val := fun w => valXT fn ts w
  says := fun w h => ∃ K : PySem.W.Frag, K.In h ∧ SaysXT fx fn ts w K
  of := fun _ _ e => ⟨_, He.frG_in, e⟩
  keeps := fun _ _ _ ⟨K, hK, c⟩ k => ⟨K, PySem.W.Frag.In.keeps hK k, c⟩
theorem obsXTG_eq {n : Nat} {fx : List FT} {fn : List He.DefD} {ts : List He.Tab} {g : Addr → Option Obj} {s : Shared} (h : ∀ a, g a = s.heap.get? a) : obsXTG n fx fn ts g = (hookXT n fx fn ts).obs s := by
  have e : g = s.heap.get? := funext h
  rw [e] <;> rfl
section
variable {fx : List FT} {fn : List He.DefD} {ts : List He.Tab} {w : World} {K : PySem.W.Frag}
theorem SaysXT.x (c : SaysXT fx fn ts w K) : SaysX fx fn K := congrArg (fun z : AlX => z.1) c
theorem SaysXT.tab (c : SaysXT fx fn ts w K) (i : Nat) {t : He.Tab} (h : ts[i]? = some t := by rfl) : ∃ es n, KDict K w (t.1 K) es n := by
  have e : ts.map (fun t => He.dicW K (t.1 K)) = ts.map fun t => some (He.keysIn w.params t.2) := congrArg (fun z : AlX => z.2) c
  have e2 : (ts.map fun t => He.dicW K (t.1 K))[i]? = (ts.map fun t => some (He.keysIn w.params t.2))[i]? := by rw [e]
  rw [List.getElem?_map, List.getElem?_map, h] at e2
  exact He.dicW_ok (Option.some.inj e2)
/-- under this key stands this -/
theorem kdct_of {a : Addr} {es : Array DictEntry} {n : Nat} (D : KDict K w a es n) {kvs : List (Str × He.Dv)} (h : He.valsB K a kvs = true) {q : Str × He.Dv} (hq : q ∈ kvs) : KDct K w a q.1 (q.2.v K) := by
  obtain ⟨u, h1, h2⟩ := He.valsB_ok h hq
  exact ⟨es, n, u, D.at_, D.lit, h1, h2⟩
end
section
variable {P : Program} {w : World} {K : PySem.W.Frag} {mg : Str → Option Value} {base : Heap}
/-- where the def st, named x, stands under the name g -/
structure AtN (K : PySem.W.Frag) (mg : Str → Option Value) (g x : Str) (st : Stmt) : Prop where
  ex : ∃ (f : Addr) (fd : FuncData), FnP K x st f fd ∧ mg g = some (.ref f)
theorem AtN.cal {g x : Str} {st : Stmt} {N ps : List Str} {k : Nat} {sp : Sp} (F : AtN K mg g x st) (S : FnScope N ps (defScope st))
    (hb : ∀ (kV doc pm : Value) (an : Option Addr) (cdv ct : Value) (us : List Value), us.length = ps.length → bindArgs (PySem.W.fnOf x x (defArgs st) (defBody st) (defScope st) .none kV doc pm an cdv ct) ⟨us, []⟩ = pure (ps.zip us))
    (len : ∀ vs H Q E, sp vs H Q E → vs.length = ps.length)
    (hbody : ∀ (f : Addr) (cdv : Value) (A : Around) (outer : List Env) (s : Shared) (H : Hp) (vs : List V) (Q : VK) (E : XK), Room k (A.deeper (envOfC x (defScope st) s.heap.objs.size f cdv)) → sp vs H Q E →
      ∃ t, PSs (cxOf (L2.CX P w) P w K mg base N x (defScope st) f cdv A outer s H E) (defBody st) t ∧ t { nx := fun _ H' => Q .non H', rt := Q } (start N vs) H) : Cal P w K mg base (k + 1) g sp := by
  obtain ⟨f, fd, F, hm⟩ := F.ex
  exact ⟨f, fd, ps, F.ok S len (hbody f), hm, F.kp, F.bindsN hb⟩
/-! ### a def with defaults, called without them -/
structure CalD (P : Program) (w : World) (K : PySem.W.Frag) (mg : Str → Option Value) (base : Heap) (k : Nat) (x : Str) (dvs : List V) (sp : Sp) : Prop where
  ex : ∃ (f : Addr) (fd : FuncData) (ps : List Str) (ds : List Value), FnOk P w K mg base (L2.CX P w) k f fd ps sp ∧ mg x = some (.ref f) ∧ PySem.W.keepIn K (.ref f) = true ∧ Binds K fd ps ds ∧ Vals dvs ds
/-- where such a def stands -/
structure AtD (K : PySem.W.Frag) (mg : Str → Option Value) (x : Str) (st : Stmt) (dvs : List V) : Prop where
  ex : ∃ (f : Addr) (fd : FuncData), FunD K x x (defArgs st) (defBody st) (defScope st) dvs [] f fd ∧ mg x = some (.ref f)
theorem AtD.cal {x : Str} {st : Stmt} {N ps : List Str} {k : Nat} {sp : Sp} {dvs : List V} (F : AtD K mg x st dvs) (S : FnScope N ps (defScope st)) (n : Nat) (hd : dvs ≠ []) (hn : n + dvs.length = ps.length)
    (hb : ∀ (T : Addr) (kV doc pm : Value) (an : Option Addr) (cdv ct : Value) (us its : List Value), us.length = n → its.length = dvs.length →
      ∃ k, bindArgs (PySem.W.fnOf x x (defArgs st) (defBody st) (defScope st) (.ref T) kV doc pm an cdv ct) ⟨us, []⟩ = seqItems? (.ref T) >>= k ∧ k (some its.toArray) = pure (ps.zip (us ++ its)))
    (len : ∀ vs H Q E, sp vs H Q E → vs.length = ps.length)
    (hbody : ∀ (f : Addr) (cdv : Value) (A : Around) (outer : List Env) (s : Shared) (H : Hp) (vs : List V) (Q : VK) (E : XK), Room k (A.deeper (envOfC x (defScope st) s.heap.objs.size f cdv)) → sp vs H Q E →
      ∃ t, PSs (cxOf (L2.CX P w) P w K mg base N x (defScope st) f cdv A outer s H E) (defBody st) t ∧ t { nx := fun _ H' => Q .non H', rt := Q } (start N vs) H) : CalD P w K mg base (k + 1) x dvs sp := by
  obtain ⟨f, fd, F, hm⟩ := F.ex
  obtain ⟨ds, v, b⟩ := F.binds1 (ps := ps) n 0 hd (by rw [Nat.sub_zero]; exact hn) hb
  exact ⟨f, fd, ps, ds, F.ok S len (hbody f), hm, F.kp, b, v⟩
end
section
variable {X : Cx} {k j : Nat} {x : Str} {sp : Sp} {E : XK} {p pos : Pos} {e fe : Expr} {es : List Expr} {t : TA} {tf : TE} {dvs : List V}
theorem pe_calD (F : CalD X.prog X.w X.K X.mg X.base k x dvs sp) (hr : Room j X.A) (hk : k ≤ j) (hg : Gl X x) (hx : Passes (L2.CX X.prog X.w) X E) (ha : PA X (e :: es) t) (hdb : (x == ("__debug__" : Str)) = false := by decide)
    (he : starEach (e :: es) X.env = (false, eval e X.env) :: starEach es X.env := by rfl) (hpl : (backTo pos (starEach es X.env)).any (·.1) = false := by rfl) :
    PE X (.Call (.Name x p) (e :: es) [] pos) (tCall sp dvs E t) := by
  obtain ⟨f, fd, ps, ds, G, hm, kp, b, v⟩ := F.ex
  exact pe_call G (hr.mono hk) hg hm kp b v hx ha hdb he hpl
/-! ### the def that an expression gives, called -/
def tCallV (P : Program) (w : World) (K : PySem.W.Frag) (mg : Str → Option Value) (base : Heap) (k : Nat) (E : XK) (tf : TE) (t : TA) : TE := fun σ H Q => tf σ H fun x H1 => ∃ (nm : Str) (f : Addr) (sp : Sp), x = .ref f ∧ mg nm = some (.ref f) ∧ Cal P w K mg base k nm sp ∧ tCall sp [] E t σ H1 Q
theorem pe_callV (hr : Room j X.A) (hk : k ≤ j) (hf : PE X fe tf) (hx : Passes (L2.CX X.prog X.w) X E) (ha : PA X (e :: es) t)
    (he : starEach (e :: es) X.env = (false, eval e X.env) :: starEach es X.env := by rfl) (hpl : (backTo pos (starEach es X.env)).any (·.1) = false := by rfl)
    (hq : eval (.Call fe (e :: es) [] pos) X.env = (do callWith pos (← eval fe X.env) [] (backTo pos (starEach (e :: es) X.env)) (backToKw pos (keywordEach [] X.env))) := by rfl) :
    PE X (.Call fe (e :: es) [] pos) (tCallV X.prog X.w X.K X.mg X.base k E tf t) := by
  refine ⟨fun pins s σ H Q I h => ?_⟩
  refine Call_ (thn (hf.run pins s σ H _ I h) fun v s1 ⟨x, H1, I1, rx, nm, f, sp, ex, hm, F, q⟩ => ?_) hq
  subst ex
  cases rx
  obtain ⟨f2, fd, ps, G, hm2, kp, b⟩ := F.ex
  have e : f = f2 := by
    have h := hm.symm.trans hm2
    injection h with h
    injection h
  subst e
  refine PySem.W.callWith_K (h₀ := X.base) I1.ok.mod.kin kp (thn (ha.run pos pins s1 σ H1 _ I1 q) fun us s2 ⟨vs, H2, I2, r, q2⟩ => ⟨I2.kIn, ?_⟩) he hpl
  exact run_fn G (hr.mono hk) b .nil hx I2 r q2
end
end Ns

/-! Own layer D: data in the heap, comprehensions that make data of data. -/
namespace Ns
open PySem PySem.Spec PyProof.Rows L2
/-! ### what stays -/
/-- tuples stay -/
def KeepT (H H' : Hp) : Prop := ∀ a xs, H a = some (.tup xs) → H' a = some (.tup xs)
theorem KeepT.refl (H : Hp) : KeepT H H := fun _ _ h => h
theorem KeepT.trans {H H1 H2 : Hp} (x : KeepT H H1) (y : KeepT H1 H2) : KeepT H H2 := fun a xs h => y a xs (x a xs h)
theorem sKt {H H' : Hp} (x : Same H H') : KeepT H H' := fun a xs h => x a _ h
theorem KeepT.lst {H : Hp} {p : Addr} {xs : List V} {o : HO} (h : H p = some (.lst xs)) : KeepT H (upd H p o) := fun a ys e => by
  rw [upd_ne (ne_of e h (by intro z; cases z))]
  exact e
theorem KeepT.dT {H : Hp} {p : Addr} {xs : List (List Key × V)} {o : HO} (h : H p = some (.dT xs)) : KeepT H (upd H p o) := fun a ys e => by
  rw [upd_ne (ne_of e h (by intro z; cases z))]
  exact e
theorem KeepT.dK {H : Hp} {p : Addr} {xs : List (Key × V)} {o : HO} (h : H p = some (.dK xs)) : KeepT H (upd H p o) := fun a ys e => by
  rw [upd_ne (ne_of e h (by intro z; cases z))]
  exact e
theorem KeepT.new {H : Hp} {p : Addr} {o : HO} (h : H p = none) : KeepT H (upd H p o) := fun a ys e => by
  rw [upd_ne (ne_of_none e h)]
  exact e
/-- all stands but what stands at D -/
def SameX (D : Addr) (H H' : Hp) : Prop := ∀ a o, H a = some o → a ≠ D → H' a = some o
theorem SameX.refl (D : Addr) (H : Hp) : SameX D H H := fun _ _ h _ => h
theorem SameX.trans {D : Addr} {H H1 H2 : Hp} (x : SameX D H H1) (y : SameX D H1 H2) : SameX D H H2 := fun a o h n => y a o (x a o h n) n
theorem sX {D : Addr} {H H' : Hp} (x : Same H H') : SameX D H H' := fun a o h _ => x a o h
theorem SameX.put {D : Addr} {o : HO} {H : Hp} : SameX D H (upd H D o) := fun a u h n => by
  rw [upd_ne n]
  exact h
theorem SameX.same {D : Addr} {H H1 H2 : Hp} (n : H D = none) (x : Same H H1) (y : SameX D H1 H2) : Same H H2 := fun a o h => y a o (x a o h) (ne_of_none h n)
/-- a store into an object new since H -/
theorem sPut {p : Addr} {o : HO} {H H1 : Hp} (x : Same H H1) (n : H p = none) : Same H (upd H1 p o) := fun a u h => by
  rw [upd_ne (ne_of_none h n)]
  exact x a u h
theorem sNew {p : Addr} {o : HO} {H H1 : Hp} (x : Same H H1) (n : H1 p = none) : Same H (upd H1 p o) := fun a u h => by
  rw [upd_ne (ne_of_none (x a u h) n)]
  exact x a u h
theorem same_laid {H : Hp} {p : Addr} {o : HO} (h : H p = none) : Same H (upd H p o) := sNew (Same.refl H) h
/-! ### data -/
/-- a representation that stays while tuples stay -/
def PersT {α : Type} (R : Hp → V → α → Prop) : Prop := ∀ H H' v a, KeepT H H' → R H v a → R H' v a
theorem pMono {α : Type} {R : Hp → V → α → Prop} (p : PersT R) {H H' : Hp} (k : KeepT H H') : ∀ {vs : List V} {xs : List α}, Paired (R H) vs xs → Paired (R H') vs xs
  | _, _, .nil => .nil
  | _, _, .cons h t => .cons (p _ _ _ _ k h) (pMono p k t)
theorem pApp {α β : Type} {F : α → β → Prop} : ∀ {as as' : List α} {bs bs' : List β}, Paired F as bs → Paired F as' bs' → Paired F (as ++ as') (bs ++ bs')
  | _, _, _, _, .nil, h => h
  | _, _, _, _, .cons h t, h' => .cons h (pApp t h')
theorem pAt {α β : Type} {F : α → β → Prop} : ∀ {as : List α} {bs : List β} {i : Nat} {b : β}, Paired F as bs → bs[i]? = some b → ∃ a, as[i]? = some a ∧ F a b
  | _, _, _, _, .nil, h => by simp at h
  | _, _, 0, _, .cons h t, e => by simp at e; exact ⟨_, rfl, e ▸ h⟩
  | _, _, i + 1, _, .cons h t, e => by
    obtain ⟨a, h1, h2⟩ := pAt (i := i) t (by simpa using e)
    exact ⟨a, by simpa using h1, h2⟩
theorem pAtL {α β : Type} {F : α → β → Prop} : ∀ {as : List α} {bs : List β} {i : Nat} {a : α}, Paired F as bs → as[i]? = some a → ∃ b, bs[i]? = some b ∧ F a b
  | _, _, _, _, .nil, h => by simp at h
  | _, _, 0, _, .cons h t, e => by simp at e; exact ⟨_, rfl, e ▸ h⟩
  | _, _, i + 1, _, .cons h t, e => by
    obtain ⟨a, h1, h2⟩ := pAtL (i := i) t (by simpa using e)
    exact ⟨a, by simpa using h1, h2⟩
theorem pMem {α β : Type} {F : α → β → Prop} {as : List α} {bs : List β} (p : Paired F as bs) {b : β} (h : b ∈ bs) : ∃ a, a ∈ as ∧ F a b := by
  obtain ⟨i, hi⟩ := List.mem_iff_getElem?.mp h
  obtain ⟨a, h1, h2⟩ := pAt p hi
  exact ⟨a, List.mem_of_getElem? h1, h2⟩
theorem pMemL {α β : Type} {F : α → β → Prop} {as : List α} {bs : List β} (p : Paired F as bs) {a : α} (h : a ∈ as) : ∃ b, b ∈ bs ∧ F a b := by
  obtain ⟨i, hi⟩ := List.mem_iff_getElem?.mp h
  obtain ⟨a, h1, h2⟩ := pAtL p hi
  exact ⟨a, List.mem_of_getElem? h1, h2⟩
theorem pMapL {α β γ : Type} {F : α → β → Prop} (f : γ → α) (g : γ → β) : ∀ (l : List γ), (∀ c ∈ l, F (f c) (g c)) → Paired F (l.map f) (l.map g)
  | [], _ => .nil
  | c :: l, h => .cons (h c (List.mem_cons_self ..)) (pMapL f g l fun d hd => h d (List.mem_cons_of_mem _ hd))
/-- a point -/
def pI (x : Nat) : V := .int (x : Int)
def Pt (_ : Hp) (v : V) (x : Nat) : Prop := v = pI x
theorem persPt : PersT Pt := fun _ _ _ _ _ h => h
/-- an int -/
def Nm (_ : Hp) (v : V) (z : Int) : Prop := v = .int z
theorem persNm : PersT Nm := fun _ _ _ _ _ h => h
theorem pairedNm (H : Hp) : ∀ ns : List Int, Paired (Nm H) (ns.map V.int) ns
  | [] => .nil
  | _ :: ns => .cons rfl (pairedNm H ns)
theorem pairedNm_eq {H : Hp} : ∀ {vs : List V} {ns : List Int}, Paired (Nm H) vs ns → vs = ns.map V.int
  | _, _, .nil => rfl
  | _, _, .cons h t => by rw [show _ = V.int _ from h, pairedNm_eq t]; rfl
/-- a pair of points -/
def Pr (H : Hp) (v : V) (x : Nat × Nat) : Prop := ∃ t, v = .ref t ∧ H t = some (.tup [pI x.1, pI x.2])
theorem persPr : PersT Pr := fun _ _ _ _ k ⟨t, e, h⟩ => ⟨t, e, k _ _ h⟩
theorem prMk {H : Hp} {t : Addr} {a b : Int} {x : Nat × Nat} (h : H t = some (.tup [.int a, .int b])) (ha : a = x.1) (hb : b = x.2) : Pr H (.ref t) x := by
  subst ha hb
  exact ⟨t, rfl, h⟩
/-- a tuple of things -/
def Tup {α : Type} (R : Hp → V → α → Prop) (H : Hp) (v : V) (xs : List α) : Prop := ∃ t vs, v = .ref t ∧ H t = some (.tup vs) ∧ Paired (R H) vs xs
theorem persTup {α : Type} {R : Hp → V → α → Prop} (p : PersT R) : PersT (Tup R) := fun _ _ _ _ k ⟨t, vs, e, h, q⟩ => ⟨t, vs, e, k _ _ h, pMono p k q⟩
/-- a list of things -/
def Lst {α : Type} (R : Hp → V → α → Prop) (H : Hp) (v : V) (xs : List α) : Prop := ∃ t vs, v = .ref t ∧ H t = some (.lst vs) ∧ Paired (R H) vs xs
theorem Lst.same {α : Type} {R : Hp → V → α → Prop} (p : PersT R) {H H' : Hp} {v : V} {xs : List α} (k : Same H H') : Lst R H v xs → Lst R H' v xs := fun ⟨t, vs, e, h, q⟩ => ⟨t, vs, e, k _ _ h, pMono p (sKt k) q⟩
/-- a net -/
def Net (H : Hp) (v : V) (n : Nat) (ties : List (Nat × Nat)) : Prop := ∃ t u, v = .ref t ∧ H t = some (.tup [pI n, u]) ∧ Tup Pr H u ties
theorem Net.keep {H H' : Hp} {v : V} {n : Nat} {ties : List (Nat × Nat)} (x : Net H v n ties) (k : KeepT H H') : Net H' v n ties := by
  obtain ⟨t, u, e, h, q⟩ := x
  exact ⟨t, u, e, k _ _ h, persTup persPr _ _ _ _ k q⟩
/-! ### comprehensions: the element's reading is shown for any end -/
section
variable {α β : Type} {g : TG} {tt : TT} {te : TE} {vs : List Nat} {σ : L2.St} {H1 : Hp} {D : Addr} {Qd : Hp → Prop}
theorem filterMap_take_succ {f : α → Option β} {l : List α} {i : Nat} {x : α} (h : l[i]? = some x) : (l.take (i + 1)).filterMap f = (l.take i).filterMap f ++ (f x).toList := by
  have e : l.take (i + 1) = l.take i ++ [x] := by rw [List.take_add_one, h] <;> rfl
  rw [e, List.filterMap_append]
  cases hx : f x <;> simp [hx]
/-- over a range: f says what is made of the i-th number, if anything -/
theorem comp_range {lo : Int} {n : Nat} (hn : n < sizeLine) (f : Nat → Option β) {R : Hp → V → β → Prop} (hR : PersT R) (hD : H1 D = none)
    (hs : ∀ (i : Nat) (H : Hp) (Yes : V → Hp → Prop) (No : Hp → Prop), i < n → Same H1 H → (∀ a, f i = some a → ∀ y H4, Same H H4 → R H4 y a → Yes y H4) → (f i = none → ∀ H4, Same H H4 → No H4) →
      g (.int (lo + i)) (wipe σ vs) H fun σ2 H2 => wipe σ2 vs = wipe σ vs ∧ tt σ2 H2 fun b H3 => if b = true then te σ2 H3 Yes else No H3)
    (hd : ∀ H ys, Same H1 H → H D = some (.lst ys) → Paired (R H) ys ((List.range n).filterMap f) → Qd H) :
    ∃ W : Nat → Nat → Hp → Prop, (∃ m, W 0 m (upd H1 D (.lst []))) ∧ ∀ i m H, W i m H →
      ((Itr lo n).stop i H ∧ Qd H) ∨ ((Itr lo n).go i H ∧ ∃ Nx : Hp → Prop, (∀ H', Nx H' → ∃ m', m' < m ∧ W (i + 1) m' H') ∧ ∀ x H', (Itr lo n).yld i H x H' → g x (wipe σ vs) H' fun σ2 H2 => wipe σ2 vs = wipe σ vs ∧ tt σ2 H2 fun b H3 =>
        if b = true then te σ2 H3 fun y H4 => ∃ acc, H4 D = some (.lst acc) ∧ acc.length < sizeLine ∧ Nx (upd H4 D (.lst (acc ++ [y]))) else Nx H3) := by
  have hlen : ∀ i, ((List.range n).take i).length ≤ n := fun i => by rw [List.length_take, List.length_range]; omega
  refine lc_range (lo := lo) (n := n) (fun i H => Same H1 H ∧ ∃ ys, H D = some (.lst ys) ∧ Paired (R H) ys (((List.range n).take i).filterMap f)) ⟨same_laid hD, [], upd_same, by simpa using Paired.nil⟩ ?_ ?_
  · rintro i H hi ⟨sm, ys, hy, pr⟩
    have hat : (List.range n)[i]? = some i := by simp [hi]
    have hl : ys.length < sizeLine := by
      have := pr.length
      have h2 := List.length_filterMap_le f ((List.range n).take i)
      have h3 := hlen i
      omega
    refine hs i H _ _ hi sm (fun a ha y H4 s4 r4 => ?_) (fun ha H4 s4 => ?_)
    · refine ⟨ys, s4 _ _ hy, hl, sPut (sm.trans s4) hD, ys ++ [y], upd_same, ?_⟩
      rw [filterMap_take_succ hat, ha]
      have k : KeepT H4 (upd H4 D (.lst (ys ++ [y]))) := KeepT.lst (s4 _ _ hy)
      exact pApp (pMono hR (KeepT.trans (sKt s4) k) pr) (.cons (hR _ _ _ _ k r4) .nil)
    · refine ⟨sm.trans s4, ys, s4 _ _ hy, ?_⟩
      rw [filterMap_take_succ hat, ha]
      simpa using pMono hR (sKt s4) pr
  · rintro H ⟨sm, ys, hy, pr⟩
    rw [List.take_of_length_le (by simp)] at pr
    exact hd H ys sm hy pr
/-- over a list of data -/
theorem comp_list {K : PySem.W.Frag} {a : Addr} {us : List V} {ds : List α} {Rs : Hp → V → α → Prop} (hRs : PersT Rs) (f : α → Option β) {R : Hp → V → β → Prop} (hR : PersT R) (hD : H1 D = none)
    (hl : SqL K H1 a us) (hn : us.length < sizeLine) (hp : Paired (Rs H1) us ds)
    (hs : ∀ (d : α) (x : V) (H : Hp) (Yes : V → Hp → Prop) (No : Hp → Prop), d ∈ ds → Rs H x d → Same H1 H → (∀ a, f d = some a → ∀ y H4, Same H H4 → R H4 y a → Yes y H4) → (f d = none → ∀ H4, Same H H4 → No H4) →
      g x (wipe σ vs) H fun σ2 H2 => wipe σ2 vs = wipe σ vs ∧ tt σ2 H2 fun b H3 => if b = true then te σ2 H3 Yes else No H3)
    (hd : ∀ H ys, Same H1 H → H D = some (.lst ys) → Paired (R H) ys (ds.filterMap f) → Qd H) :
    ∃ W : Nat → Nat → Hp → Prop, (∃ m, W 0 m (upd H1 D (.lst []))) ∧ ∀ i m H, W i m H →
      ((Itl K a).stop i H ∧ Qd H) ∨ ((Itl K a).go i H ∧ ∃ Nx : Hp → Prop, (∀ H', Nx H' → ∃ m', m' < m ∧ W (i + 1) m' H') ∧ ∀ x H', (Itl K a).yld i H x H' → g x (wipe σ vs) H' fun σ2 H2 => wipe σ2 vs = wipe σ vs ∧ tt σ2 H2 fun b H3 =>
        if b = true then te σ2 H3 fun y H4 => ∃ acc, H4 D = some (.lst acc) ∧ acc.length < sizeLine ∧ Nx (upd H4 D (.lst (acc ++ [y]))) else Nx H3) := by
  have hlen := hp.length
  refine lc_list (K := K) (a := a) (xs := us) (fun i H => Same H1 H ∧ ∃ ys, H D = some (.lst ys) ∧ Paired (R H) ys ((ds.take i).filterMap f)) ⟨same_laid hD, [], upd_same, by simpa using Paired.nil⟩ (fun i H _ p => p.1.seq hl) ?_ ?_
  · rintro i x H hi ⟨sm, ys, hy, pr⟩
    obtain ⟨d, hat, hrs⟩ := pAtL hp hi
    have hll : ys.length < sizeLine := by
      have := pr.length
      have h2 := List.length_filterMap_le f (ds.take i)
      have h3 : (ds.take i).length ≤ ds.length := by rw [List.length_take]; omega
      omega
    refine hs d x H _ _ (List.mem_of_getElem? hat) (hRs _ _ _ _ (sKt sm) hrs) sm (fun a ha y H4 s4 r4 => ?_) (fun ha H4 s4 => ?_)
    · refine ⟨ys, s4 _ _ hy, hll, sPut (sm.trans s4) hD, ys ++ [y], upd_same, ?_⟩
      rw [filterMap_take_succ hat, ha]
      have k : KeepT H4 (upd H4 D (.lst (ys ++ [y]))) := KeepT.lst (s4 _ _ hy)
      exact pApp (pMono hR (KeepT.trans (sKt s4) k) pr) (.cons (hR _ _ _ _ k r4) .nil)
    · refine ⟨sm.trans s4, ys, s4 _ _ hy, ?_⟩
      rw [filterMap_take_succ hat, ha]
      simpa using pMono hR (sKt s4) pr
  · rintro H ⟨sm, ys, hy, pr⟩
    rw [hlen, List.take_of_length_le (Nat.le_refl _)] at pr
    exact hd H ys sm hy pr
/-- over a tuple of data -/
theorem comp_tup {K : PySem.W.Frag} {a : Addr} {us : List V} {ds : List α} {Rs : Hp → V → α → Prop} (hRs : PersT Rs) (f : α → Option β) {R : Hp → V → β → Prop} (hR : PersT R) (hD : H1 D = none)
    (hl : H1 a = some (.tup us)) (hn : us.length < sizeLine) (hp : Paired (Rs H1) us ds)
    (hs : ∀ (d : α) (x : V) (H : Hp) (Yes : V → Hp → Prop) (No : Hp → Prop), d ∈ ds → Rs H x d → Same H1 H → (∀ a, f d = some a → ∀ y H4, Same H H4 → R H4 y a → Yes y H4) → (f d = none → ∀ H4, Same H H4 → No H4) →
      g x (wipe σ vs) H fun σ2 H2 => wipe σ2 vs = wipe σ vs ∧ tt σ2 H2 fun b H3 => if b = true then te σ2 H3 Yes else No H3)
    (hd : ∀ H ys, Same H1 H → H D = some (.lst ys) → Paired (R H) ys (ds.filterMap f) → Qd H) :
    ∃ W : Nat → Nat → Hp → Prop, (∃ m, W 0 m (upd H1 D (.lst []))) ∧ ∀ i m H, W i m H →
      ((Itt K a).stop i H ∧ Qd H) ∨ ((Itt K a).go i H ∧ ∃ Nx : Hp → Prop, (∀ H', Nx H' → ∃ m', m' < m ∧ W (i + 1) m' H') ∧ ∀ x H', (Itt K a).yld i H x H' → g x (wipe σ vs) H' fun σ2 H2 => wipe σ2 vs = wipe σ vs ∧ tt σ2 H2 fun b H3 =>
        if b = true then te σ2 H3 fun y H4 => ∃ acc, H4 D = some (.lst acc) ∧ acc.length < sizeLine ∧ Nx (upd H4 D (.lst (acc ++ [y]))) else Nx H3) := by
  have hlen := hp.length
  refine lc_tup (K := K) (a := a) (xs := us) (fun i H => Same H1 H ∧ ∃ ys, H D = some (.lst ys) ∧ Paired (R H) ys ((ds.take i).filterMap f)) ⟨same_laid hD, [], upd_same, by simpa using Paired.nil⟩ (fun i H _ p => SqT.of (p.1 _ _ hl)) ?_ ?_
  · rintro i x H hi ⟨sm, ys, hy, pr⟩
    obtain ⟨d, hat, hrs⟩ := pAtL hp hi
    have hll : ys.length < sizeLine := by
      have := pr.length
      have h2 := List.length_filterMap_le f (ds.take i)
      have h3 : (ds.take i).length ≤ ds.length := by rw [List.length_take]; omega
      omega
    refine hs d x H _ _ (List.mem_of_getElem? hat) (hRs _ _ _ _ (sKt sm) hrs) sm (fun a ha y H4 s4 r4 => ?_) (fun ha H4 s4 => ?_)
    · refine ⟨ys, s4 _ _ hy, hll, sPut (sm.trans s4) hD, ys ++ [y], upd_same, ?_⟩
      rw [filterMap_take_succ hat, ha]
      have k : KeepT H4 (upd H4 D (.lst (ys ++ [y]))) := KeepT.lst (s4 _ _ hy)
      exact pApp (pMono hR (KeepT.trans (sKt s4) k) pr) (.cons (hR _ _ _ _ k r4) .nil)
    · refine ⟨sm.trans s4, ys, s4 _ _ hy, ?_⟩
      rw [filterMap_take_succ hat, ha]
      simpa using pMono hR (sKt s4) pr
  · rintro H ⟨sm, ys, hy, pr⟩
    rw [hlen, List.take_of_length_le (Nat.le_refl _)] at pr
    exact hd H ys sm hy pr
end
/-! ### the pairs of points, in order -/
def rowP (n x : Nat) : List (Nat × Nat) := (List.range (n - (x + 1))).map fun k => (x, x + 1 + k)
def allPairs (n : Nat) : List (Nat × Nat) := (List.range n).flatMap (rowP n)
theorem mem_rowP {n x : Nat} {p : Nat × Nat} : p ∈ rowP n x ↔ p.1 = x ∧ x < p.2 ∧ p.2 < n := by
  unfold rowP
  rw [List.mem_map]
  constructor
  · rintro ⟨k, hk, rfl⟩
    have := List.mem_range.mp hk
    exact ⟨rfl, by show x < x + 1 + k; omega, by show x + 1 + k < n; omega⟩
  · rintro ⟨h1, h2, h3⟩
    refine ⟨p.2 - (x + 1), List.mem_range.mpr (by omega), ?_⟩
    rw [← h1]
    exact Prod.ext rfl (by show p.1 + 1 + (p.2 - (p.1 + 1)) = p.2; omega)
theorem mem_allPairs {n : Nat} {p : Nat × Nat} : p ∈ allPairs n ↔ p.1 < p.2 ∧ p.2 < n := by
  unfold allPairs
  rw [List.mem_flatMap]
  constructor
  · rintro ⟨x, hx, hp⟩
    obtain ⟨h1, h2, h3⟩ := mem_rowP.mp hp
    exact ⟨by omega, h3⟩
  · rintro ⟨h1, h2⟩
    exact ⟨p.1, List.mem_range.mpr (by omega), mem_rowP.mpr ⟨rfl, h1, h2⟩⟩
theorem rowP_len (n x : Nat) : (rowP n x).length ≤ n := by
  unfold rowP
  rw [List.length_map, List.length_range]
  omega
theorem flat_len {α β : Type} (f : α → List β) (n : Nat) (h : ∀ x, (f x).length ≤ n) : ∀ l : List α, (l.flatMap f).length ≤ l.length * n
  | [] => by simp
  | x :: l => by
    rw [List.flatMap_cons, List.length_append, List.length_cons, Nat.add_mul, Nat.one_mul]
    have := flat_len f n h l
    have := h x
    omega
theorem allPairs_len (n : Nat) : (allPairs n).length ≤ n * n := by
  have := flat_len (rowP n) n (rowP_len n) (List.range n)
  rwa [List.length_range] at this
/-- the order of pairs -/
def ltP (p q : Nat × Nat) : Prop := p.1 < q.1 ∨ p.1 = q.1 ∧ p.2 < q.2
instance (p q : Nat × Nat) : Decidable (ltP p q) := by unfold ltP; infer_instance
theorem allPairs_sorted (n : Nat) : (allPairs n).Pairwise ltP := by
  unfold allPairs
  rw [List.pairwise_flatMap]
  constructor
  · intro x _
    unfold rowP
    rw [List.pairwise_map]
    exact List.Pairwise.imp (fun {a b} h => .inr ⟨rfl, by show x + 1 + a < x + 1 + b; omega⟩) List.pairwise_lt_range
  · refine List.Pairwise.imp (fun {a b} h p hp q hq => ?_) List.pairwise_lt_range
    have h1 := mem_rowP.mp hp
    have h2 := mem_rowP.mp hq
    exact .inl (by omega)
/-- what the program takes for a net's points and ties -/
def Good (n : Nat) (ties : List (Nat × Nat)) : Prop := (∀ p ∈ ties, p.1 < p.2 ∧ p.2 < n) ∧ ties.Pairwise ltP
theorem Good.filter {n : Nat} (f : Nat × Nat → Bool) : Good n ((allPairs n).filter f) :=
  ⟨fun p hp => mem_allPairs.mp ((List.mem_filter.mp hp).1), (allPairs_sorted n).filter f⟩
theorem sizeBig {n : Nat} (h : n ≤ 16000000) : n < sizeLine := Nat.lt_of_le_of_lt h (by rw [sizeLine_eq]; decide)
/-! ### dicts whose keys are pairs of points -/
abbrev DT := List (List Key × V)
def key (x : Nat × Nat) : List Key := [.inl (x.1 : Int), .inl (x.2 : Int)]
theorem key_inj {x y : Nat × Nat} (h : key x = key y) : x = y := by
  unfold key at h
  simp only [List.cons.injEq, Sum.inl.injEq] at h
  exact Prod.ext (by have := h.1; omega) (by have := h.2.1; omega)
def hasP (kvs : DT) (x : Nat × Nat) : Bool := (valV kvs (key x)).isSome
theorem dgetP {H : Hp} {d t : Addr} {kvs : DT} {a b : Int} {x : Nat × Nat} (h : H d = some (.dT kvs)) (ht : H t = some (.tup [.int a, .int b])) (ha : a = x.1) (hb : b = x.2) : DGet H d (.ref t) (valV kvs (key x)) := by
  subst ha hb
  exact DGet.t h ht
theorem dputP {H : Hp} {d t : Addr} {kvs : DT} {a b : Int} {x : Nat × Nat} {v : V} (h : H d = some (.dT kvs)) (ht : H t = some (.tup [.int a, .int b])) (ha : a = x.1) (hb : b = x.2) (hl : kvs.length < sizeLine) :
    DPut H d (.ref t) v (upd H d (.dT (putK kvs (key x) v))) := by
  subst ha hb
  exact DPut.t h ht hl
theorem hasP_put (kvs : DT) (x y : Nat × Nat) (v : V) : hasP (putK kvs (key x) v) y = (decide (y = x) || hasP kvs y) := by
  unfold hasP
  rw [valV_put]
  by_cases h : y = x
  · subst h
    simp
  · rw [if_neg (fun e => h (key_inj e))]
    simp [h]
/-! ### bounds of lists -/
theorem sub_len {α : Type} [DecidableEq α] : ∀ (l m : List α), l.Nodup → (∀ x ∈ l, x ∈ m) → l.length ≤ m.length
  | [], m, _, _ => Nat.zero_le _
  | x :: l, m, h, hs => by
    have hx : x ∈ m := hs x (List.mem_cons_self ..)
    have h1 := List.nodup_cons.mp h
    have h2 := sub_len l (m.erase x) h1.2 fun y hy => (List.mem_erase_of_ne (fun e => h1.1 (by rw [← e]; exact hy))).mpr (hs y (List.mem_cons_of_mem _ hy))
    rw [List.length_erase_of_mem hx] at h2
    have := List.length_pos_of_mem hx
    rw [List.length_cons]
    omega
def square (n : Nat) : List (Nat × Nat) := (List.range n).flatMap fun x => (List.range n).map fun y => (x, y)
theorem mem_square {n : Nat} {p : Nat × Nat} (h : p.1 < n ∧ p.2 < n) : p ∈ square n := by
  unfold square
  rw [List.mem_flatMap]
  exact ⟨p.1, List.mem_range.mpr h.1, List.mem_map.mpr ⟨p.2, List.mem_range.mpr h.2, rfl⟩⟩
theorem square_len (n : Nat) : (square n).length ≤ n * n := by
  have := flat_len (fun x : Nat => (List.range n).map fun y => (x, y)) n (fun x => by simp) (List.range n)
  rwa [List.length_range] at this
/-- the keys are pairs of points, each once -/
def KeysAre (n : Nat) (kvs : DT) (ks : List (Nat × Nat)) : Prop := kvs.map (·.1) = ks.map key ∧ (∀ k ∈ ks, k.1 < n ∧ k.2 < n) ∧ ks.Nodup
def KeysIn (n : Nat) (kvs : DT) : Prop := ∃ ks, KeysAre n kvs ks
theorem KeysIn.nil {n : Nat} : KeysIn n [] := ⟨[], rfl, by simp, List.nodup_nil⟩
theorem KeysAre.len {n : Nat} {kvs : DT} {ks : List (Nat × Nat)} (h : KeysAre n kvs ks) : kvs.length ≤ n * n := by
  obtain ⟨h1, h2, h3⟩ := h
  have e := congrArg List.length h1
  rw [List.length_map, List.length_map] at e
  have := sub_len ks (square n) h3 fun x hx => mem_square (h2 x hx)
  have := square_len n
  omega
theorem KeysIn.len {n : Nat} {kvs : DT} (h : KeysIn n kvs) : kvs.length ≤ n * n := h.elim fun _ x => x.len
theorem nodup_key : ∀ {ks : List (Nat × Nat)}, ks.Nodup → (ks.map key).Nodup
  | [], _ => List.nodup_nil
  | k :: ks, h => by
    have h1 := List.nodup_cons.mp h
    rw [List.map_cons, List.nodup_cons]
    refine ⟨fun hm => ?_, nodup_key h1.2⟩
    obtain ⟨k', hk, e⟩ := List.mem_map.mp hm
    exact h1.1 (key_inj e ▸ hk)
theorem KeysAre.put {n : Nat} {kvs : DT} {ks : List (Nat × Nat)} {x : Nat × Nat} {v : V} (h : KeysAre n kvs ks) (hx : x.1 < n ∧ x.2 < n) : KeysAre n (putK kvs (key x) v) (if x ∈ ks then ks else ks ++ [x]) := by
  obtain ⟨h1, h2, h3⟩ := h
  by_cases hm : x ∈ ks
  · rw [if_pos hm]
    refine ⟨?_, h2, h3⟩
    have ha : (kvs.any fun kv => decide (kv.1 = key x)) = true := by
      have : key x ∈ kvs.map (·.1) := by rw [h1]; exact List.mem_map.mpr ⟨x, hm, rfl⟩
      obtain ⟨kv, hkv, e⟩ := List.mem_map.mp this
      exact List.any_eq_true.mpr ⟨kv, hkv, decide_eq_true e⟩
    unfold putK
    rw [if_pos ha, List.map_map, ← h1]
    refine List.map_congr_left fun kv _ => ?_
    show (if kv.1 = key x then (kv.1, v) else kv).1 = kv.1
    split <;> rfl
  · rw [if_neg hm]
    have hn : valV kvs (key x) = none := by
      have ha : (kvs.any fun kv => decide (kv.1 = key x)) = false := by
        rw [← Bool.not_eq_true]
        intro ha
        obtain ⟨kv, hkv, e⟩ := List.any_eq_true.mp ha
        have h4 : kv.1 ∈ kvs.map (·.1) := List.mem_map.mpr ⟨kv, hkv, rfl⟩
        rw [h1, of_decide_eq_true e] at h4
        obtain ⟨k', hk, e2⟩ := List.mem_map.mp h4
        exact hm (key_inj e2 ▸ hk)
      rw [valV_any] at ha
      simpa using ha
    rw [putK_new v hn]
    refine ⟨by rw [List.map_append, List.map_append, h1]; rfl, fun k hk => ?_, ?_⟩
    · rcases List.mem_append.mp hk with hk | hk
      · exact h2 k hk
      · rw [List.mem_singleton.mp hk]
        exact hx
    · rw [List.nodup_append]
      exact ⟨h3, by simp, fun a ha b hb e => hm (by rw [List.mem_singleton] at hb; rw [← hb, ← e]; exact ha)⟩
theorem KeysIn.put {n : Nat} {kvs : DT} {x : Nat × Nat} {v : V} (h : KeysIn n kvs) (hx : x.1 < n ∧ x.2 < n) : KeysIn n (putK kvs (key x) v) := h.elim fun _ y => ⟨_, y.put hx⟩
theorem KeysIn.drop {n : Nat} {kvs : DT} {k : List Key} (h : KeysIn n kvs) : KeysIn n (dropK kvs k) := by
  obtain ⟨ks, h1, h2, h3⟩ := h
  refine ⟨ks.filter fun x => decide (key x ≠ k), ?_, fun x hx => h2 x (List.mem_filter.mp hx).1, h3.filter _⟩
  unfold dropK
  have : ∀ (kvs : DT) (ks : List (Nat × Nat)), kvs.map (·.1) = ks.map key → (kvs.filter fun kv => decide (kv.1 ≠ k)).map (·.1) = (ks.filter fun x => decide (key x ≠ k)).map key := by
    intro kvs
    induction kvs with
    | nil =>
      intro ks e
      cases ks with
      | nil => rfl
      | cons a b => simp at e
    | cons kv kvs ih =>
      intro ks e
      cases ks with
      | nil => simp at e
      | cons a ks =>
        simp only [List.map_cons, List.cons.injEq] at e
        rw [List.filter_cons, List.filter_cons, e.1]
        split
        · rw [List.map_cons, List.map_cons, ih ks e.2, e.1]
        · exact ih ks e.2
  exact this kvs ks h1
/-- a pair of whole numbers -/
def PrZ (H : Hp) (v : V) (x : Int × Int) : Prop := ∃ t, v = .ref t ∧ H t = some (.tup [.int x.1, .int x.2])
theorem persPrZ : PersT PrZ := fun _ _ _ _ k ⟨t, e, h⟩ => ⟨t, e, k _ _ h⟩
theorem pairedPt_eq {H : Hp} : ∀ {vs : List V} {xs : List Nat}, Paired (Pt H) vs xs → vs = xs.map pI
  | _, _, .nil => rfl
  | _, _, .cons h t => by rw [show _ = pI _ from h, pairedPt_eq t]; rfl
theorem pairedPt (H : Hp) : ∀ xs : List Nat, Paired (Pt H) (xs.map pI) xs
  | [] => .nil
  | _ :: xs => .cons rfl (pairedPt H xs)
theorem sxKt {d : Addr} {H H' : Hp} {kvs : DT} (x : SameX d H H') (h : H d = some (.dT kvs)) : KeepT H H' := fun a xs e => x a _ e (ne_of e h (by intro z; cases z))
theorem sxLt {d : Addr} {H H' : Hp} {ys : List V} (x : SameX d H H') (h : H d = some (.lst ys)) : KeepT H H' := fun a xs e => x a _ e (ne_of e h (by intro z; cases z))
theorem sxNew {d p : Addr} {H H' : Hp} {o : HO} (x : SameX d H H') (h : H' p = none) : SameX d H (upd H' p o) := fun a u e n => by
  have e2 := x a u e n
  rw [upd_ne (ne_of_none e2 h)]
  exact e2
theorem sxPut {d : Addr} {H H' : Hp} {o : HO} (x : SameX d H H') : SameX d H (upd H' d o) := x.trans SameX.put
/-- one more key -/
theorem put_step {n : Nat} {d t : Addr} {H H3 : Hp} {kvs : DT} {x : Nat × Nat} {v : V} {o : HO} (sx : SameX d H H3) (hd : H3 d = some (.dT kvs)) (hk : KeysIn n kvs) (ht : H3 t = none) (hx : x.1 < n ∧ x.2 < n) :
    SameX d H (upd (upd H3 t o) d (.dT (putK kvs (key x) v))) ∧ ∃ kvs', (upd (upd H3 t o) d (.dT (putK kvs (key x) v))) d = some (.dT kvs') ∧ KeysIn n kvs' :=
  ⟨sxPut (sxNew sx ht), _, upd_same, hk.put hx⟩
theorem keys_small {n : Nat} {kvs : DT} (h : KeysIn n kvs) (hn : n ≤ 1000) : kvs.length < sizeLine := by
  have h1 := h.len
  have h2 : n * n ≤ 1000 * 1000 := Nat.mul_le_mul hn hn
  exact sizeBig (by omega)
end Ns

/-! Own layer S: rules for dicts whose keys are tuples: pop of one that is there, sorted, dict(pairs), dict(d), len. -/
namespace Ns
open PySem PySem.Spec PyProof.Rows L2
def adr : Value → Addr
  | .ref a => a
  | _ => 0
/-- the pair of ints that stands at a place -/
def pkI (H : Hp) (t : Addr) : Int × Int := match H t with
  | some (.tup [.int i, .int j]) => (i, j)
  | _ => (0, 0)
theorem pkI_of {H : Hp} {t : Addr} {i j : Int} (h : H t = some (.tup [.int i, .int j])) : pkI H t = (i, j) := by unfold pkI; rw [h]
def pk (H : Hp) (t : Addr) : Nat × Nat := ((pkI H t).1.toNat, (pkI H t).2.toNat)
theorem pk_of {H : Hp} {t : Addr} {x : Nat × Nat} (h : H t = some (.tup [pI x.1, pI x.2])) : pk H t = x := by
  unfold pk
  rw [pkI_of h]
  exact Prod.ext rfl rfl
theorem keys_at {H : Hp} : ∀ {kvs : DT} {xs : List (List Key × Addr × Value)} {ks : List (Nat × Nat)}, KT H kvs xs → kvs.map (·.1) = ks.map key → Paired (fun (x : List Key × Addr × Value) k => H x.2.1 = some (.tup [pI k.1, pI k.2])) xs ks
  | [], [], [], .nil, _ => .nil
  | [], [], _ :: _, .nil, h => by simp at h
  | _ :: _, _ :: _, [], .cons _ _, h => by simp at h
  | kv :: kvs, x :: xs, k :: ks, .cons p t, h => by
    simp only [List.map_cons, List.cons.injEq] at h
    refine .cons ?_ (keys_at t h.2)
    have e := p.2.1
    rw [h.1] at e
    exact e
section
variable {X : Cx}
/-- sorted(d), the keys being pairs of points -/
def rSortedKT : List V → Hp → VK → Prop := fun vs H Q => ∃ (d : Addr) (kvs : DT) (ks : List (Nat × Nat)), vs = [V.ref d] ∧ Rd H d (.dT kvs) ∧ kvs.map (·.1) = ks.map key ∧
  ∀ (bs : List Addr) (ys : List (Nat × Nat)) (p : Addr), ys.Perm ks → ys.Pairwise (fun a b => ¬ ltP b a) → Paired (Pr H) (bs.map V.ref) ys → H p = none → Q (.ref p) (upd H p (.lst (bs.map V.ref)))
theorem cr_sortedKT (hc : X.calm = true) : CallR X (.builtin "sorted") rSortedKT := by
  intro pins s σ H vs us Q I r h
  obtain ⟨d, kvs, ks, rfl, hd, hks, q⟩ := h
  obtain ⟨u, rfl, rx⟩ := vals1 r
  cases rx
  obtain ⟨z, hs, xs, pr, o, es, ep, ho, hx, hdt, he, hn⟩ := (show ObjOk X.prog X.w H s.heap d (.dT kvs) from hd.ok I.hok)
  have l1 : es.size = xs.length := size_of_entries he
  have l2 : kvs.length = xs.length := Paired.length pr
  have hat := keys_at pr hks
  refine Calls.call_function_entry PyProof.Rows.kind_sorted PyProof.Rows.plain_sorted PyProof.Rows.entry_sorted (PyProof.Rows.args_sorted1 _) ?_
  unfold Builtin.«sorted»
  refine wpAny_bind (m := checkCount "sorted" 1 1 _) (wpAny_pure ?_)
  refine wpAny_bind (PySem.W.kdu_collect (A := X.A.in1) (kdl_raw hs hx hdt) (I.ok.hd hc) ho (by omega) fun h' tk acc hk it => ?_)
  have ea : acc.toList = xs.map fun x => Value.ref x.2.1 := by
    have hl : acc.toList.length = xs.length := by rw [Array.length_toList, it.1]; exact l1
    apply List.ext_getElem?
    intro j
    rw [List.getElem?_map]
    cases hj : acc.toList[j]? with
    | none =>
      have h1 := List.getElem?_eq_none_iff.mp hj
      rw [hl] at h1
      rw [List.getElem?_eq_none_iff.mpr h1] <;> rfl
    | some v =>
      obtain ⟨en, h1, h2⟩ := it.2 j v (by rw [← Array.getElem?_toList]; exact hj)
      have h3 : es.toList[j]? = some en := by rw [Array.getElem?_toList]; exact h1
      rw [he, List.getElem?_map] at h3
      cases hx2 : xs[j]? with
      | none => rw [hx2] at h3; cases h3
      | some x =>
        rw [hx2] at h3
        have h4 : _ = en := Option.some.inj h3
        rw [h2, ← h4]
        rfl
  have I1 : Inv X pins σ H { s with heap := h', toks := tk } := I.kept hk
  have hal : acc.toList.length ≤ sizeLine := by rw [ea, List.length_map, ← l2]; exact z
  refine wpAny_bind (wpAny_newList ?_ hal)
  have hoL : (h'.push (seqObj "list" acc.toList.toArray 0)).get? h'.objs.size = some (seqObj "list" acc.toList.toArray 0) := Heap.get?_push_size _ rfl
  have hxs : ∀ v ∈ acc.toList, ∃ (t : Addr) (k : Nat × Nat), v = Value.ref t ∧ H t = some (.tup [pI k.1, pI k.2]) := fun v hv => by
    rw [ea] at hv
    obtain ⟨x, hx1, rfl⟩ := List.mem_map.mp hv
    obtain ⟨k, _, hk2⟩ := pMemL hat hx1
    exact ⟨_, k, rfl, hk2⟩
  have hp : ∀ v ∈ acc.toList, Srt.IsPair (h'.push (seqObj "list" acc.toList.toArray 0)) v (pkI H (adr v)).1 (pkI H (adr v)).2 := fun v hv => by
    obtain ⟨t, k, rfl, ht⟩ := hxs v hv
    obtain ⟨_, its2, r2, o, ho, hc, n, hd⟩ := I1.hok _ _ ht
    obtain ⟨u1, u2, rfl, ri, rj⟩ := vals2 r2
    obtain ⟨t1, rfl⟩ := ri
    obtain ⟨t2, rfl⟩ := rj
    show Srt.IsPair _ _ (pkI H t).1 (pkI H t).2
    rw [pkI_of ht]
    exact ⟨t, o, t1, t2, n, rfl, Heap.get?_push_of_some _ ho, hc, hd⟩
  show wpAny _ _ _ _ _ { s with heap := h'.push (seqObj "list" acc.toList.toArray 0), toks := tk }
  refine wpAny_bind (wpAny_holding (wpAny_call_entry PyProof.Rows.slot_list_sort ⟨_, hoL, rfl⟩ PyProof.Rows.entry_list_sort
    (SrtO.list_sort_ord (s := { s with heap := h'.push (seqObj "list" acc.toList.toArray 0), toks := tk }) (SrtO.swo_lex fun u => pkI H (adr u)) hoL hal (fun h2 => SrtO.pairs_sortableO (by omega) hp fun o e => ?_) fun out h1 h2 => ⟨_, rfl, ?_⟩) (PyProof.Rows.args_list_sort _)))
  · have e' : some o = some (seqObj "list" acc.toList.toArray 0) := e.symm.trans hoL
    cases e'
    intro c
    exact absurd (Value.type.inj c) (by decide)
  · obtain ⟨e', he'⟩ := PyProof.Rows.sortedHeap_at (vs := acc.toList) (out := out.toArray) hoL
    have hout : ∀ u ∈ out, ∃ (t : Addr) (k : Nat × Nat), u = Value.ref t ∧ H t = some (.tup [pI k.1, pI k.2]) := fun u hu => hxs u (h2.perm.mem_iff.mp hu)
    have ebs : (out.map adr).map Value.ref = out := by
      rw [List.map_map]
      refine (List.map_congr_left fun u hu => ?_).trans (List.map_id _)
      obtain ⟨t, k, rfl, _⟩ := hout u hu
      rfl
    have hpr : Paired (Pr H) ((out.map adr).map V.ref) ((out.map adr).map (pk H)) := pMapL _ _ _ fun t ht => by
      obtain ⟨u, hu, rfl⟩ := List.mem_map.mp ht
      obtain ⟨t, k, rfl, hk2⟩ := hout u hu
      exact ⟨t, rfl, by rw [show adr (.ref t) = t from rfl, pk_of hk2]; exact hk2⟩
    have eks : (acc.toList.map adr).map (pk H) = ks := by
      rw [ea, List.map_map, List.map_map]
      have go : ∀ {xs : List (List Key × Addr × Value)} {ks : List (Nat × Nat)}, Paired (fun (x : List Key × Addr × Value) k => H x.2.1 = some (.tup [pI k.1, pI k.2])) xs ks → xs.map ((pk H ∘ adr) ∘ fun x => Value.ref x.2.1) = ks := fun {xs ks} p => by
        induction p with
        | nil => rfl
        | cons h t ih => rw [List.map_cons, ih, show ((pk H ∘ adr) ∘ fun x : List Key × Addr × Value => Value.ref x.2.1) _ = _ from pk_of h]
      exact go hat
    have hperm : ((out.map adr).map (pk H)).Perm ks := by
      rw [← eks]
      exact (h2.perm.map adr).map (pk H)
    have hsrt : ((out.map adr).map (pk H)).Pairwise (fun a b => ¬ ltP b a) := by
      rw [List.pairwise_map, List.pairwise_map]
      refine List.Pairwise.imp_of_mem (fun {u v} hu hv e => ?_) h1
      obtain ⟨t, k, rfl, hk2⟩ := hout u hu
      obtain ⟨t', k', rfl, hk3⟩ := hout v hv
      have e : SrtO.lexB (pkI H t') (pkI H t) = false := e
      show ¬ ltP (pk H t') (pk H t)
      rw [pk_of hk2, pk_of hk3]
      rw [pkI_of hk2, pkI_of hk3] at e
      have e2 := SrtO.lexB_no.mp e
      unfold ltP
      intro c
      exact e2 (show ((k'.1 : Int) < k.1 ∨ (k'.1 : Int) = k.1 ∧ (k'.2 : Int) < k.2) by omega)
    have hlen : ((out.map adr).map V.ref).length ≤ sizeLine := by
      rw [List.length_map, List.length_map, h2.len]
      exact hal
    have hv : Vals ((out.map adr).map V.ref) out := by
      have := vals_refs (out.map adr)
      rwa [ebs] at this
    refine wpAny_pure ⟨_, rfl, .ref h'.objs.size, upd H h'.objs.size (.lst ((out.map adr).map V.ref)), I1.laid (t' := tk) (fun b u e => ?_) (Nat.le_refl _)
      (show ObjOk X.prog X.w _ _ _ (.lst ((out.map adr).map V.ref)) from ⟨hlen, out, e', hv, he'⟩), rfl, q _ _ _ hperm hsrt hpr (I1.hok.fresh (Nat.le_refl _))⟩
    have hb : b < h'.objs.size := Heap.lt_size e
    rw [PyProof.Rows.sortedHeap_old (Nat.ne_of_lt hb) (by rw [size_push']; exact Nat.lt_succ_of_lt hb)]
    exact Heap.get?_push_of_some _ e
end
end Ns
namespace Ns
open PySem PySem.Spec PyProof.Rows L2
section
variable {prog : Program} {w : World} {K : Type} [DecidableEq K] {knd : KeyKind prog w K}
/-- d.pop(k), k being there -/
theorem meetsPop1 {d b : Addr} {k : List K} (hd : (d == sysModules) = false) :
    MeetsIn prog w (Builtin.«dict.pop» ⟨[.ref d, .ref b], []⟩) (fun A R s => ∃ xs, (tupleKind knd).room A.in1 ∧ (tupleKind knd).is s.heap k b ∧ s.heap.DictOfH (tupleKind knd) d xs ∧ xs.length ≤ sizeLine ∧
      (∃ p, atKey xs k = some p) ∧
      ∀ p, atKey xs k = some p → ∀ h' tk, h'.DictOfH (tupleKind knd) d (DT.dropH xs k) → Heap.SameBut d s.heap h' → R (.ok (.ret p.2)) { s with heap := h', toks := tk }) :=
  .of_wp fun A R s ⟨xs, hu, hkey, hm, hsz, hthere, hsome⟩ => by
    obtain ⟨o, es, ep, ho, hc, hdat, he, his, hn⟩ := id hm
    have hes : es.size = xs.length := size_of_entries he
    have hpart : (keyPart (Value.ref b)).isSome = false := rfl
    unfold Builtin.«dict.pop»
    refine wpAny_bind ?_
    unfold Builtin.Dict.keyAndDefault
    refine wpAny_bind (wpAny_notOrdered_dict hm.typeIs ?_)
    show wpAny _ _ (pure (d, Value.ref b, none)) _ _ s
    refine wpAny_pure ?_
    simp only [hpart, Bool.false_eq_true, if_false]
    refine wpAny_bind (wpAny_dictEntries ho hdat (wpAny_bind (wpAny_pure ?_)))
    cases hem : es.isEmpty with
    | true =>
      have h0 : xs = [] := by
        have z : es.size = 0 := by simpa using hem
        exact List.length_eq_zero_iff.mp (by omega)
      obtain ⟨p, hp⟩ := hthere
      rw [h0] at hp
      cases hp
    | false =>
      simp only [Bool.false_eq_true, if_false]
      refine wpAny_bind (DT.takeH hu hkey hm hsz (fun hno => ?_) fun p e hp hev h' hm' hs' => ?_)
      · obtain ⟨p, hp⟩ := hthere
        rw [hno] at hp
        cases hp
      · simp only [Option.isNone_some, Bool.false_eq_true, if_false]
        exact wpAny_bind (wpAny_letGo (wpAny_pure ⟨e.val, rfl, by rw [hev]; exact hsome p hp h' _ hm' hs'⟩))
end
section
variable {X : Cx}
def rPop1T : V → List V → Hp → VK → Prop := fun x xs H Q => ∃ (a : Addr) (kvs : DT) (k : List Key) (b : Addr) (v : V), x = .ref a ∧ xs = [.ref b] ∧ H a = some (.dT kvs) ∧ H b = some (.tup (k.map kV)) ∧
  valV kvs k = some v ∧ Q v (upd H a (.dT (dropK kvs k)))
theorem mt_pop1T (hu : X.A.units + 1 < cLine) : MtR X "dict.pop" rPop1T := by
  intro pins s σ H x xs v us Q I rx rxs h
  obtain ⟨a, kvs, k, b, v0, rfl, rfl, ha, hb, hv, q⟩ := h
  cases rx
  obtain ⟨u1, rfl, r1⟩ := vals1 rxs
  cases r1
  obtain ⟨z, hd, xs', rel, dd⟩ := dt_of I.hok ha
  have hz : xs'.length ≤ sizeLine := by rw [← Paired.length rel]; exact z
  have r := rel.val k
  rw [hv] at r
  obtain ⟨p0, hp0, rv0⟩ : ∃ p0, atKey xs' k = some p0 ∧ RelV v0 p0.2 := by
    cases hp : atKey xs' k with
    | none => rw [hp] at r; exact (show False from r).elim
    | some p0 => rw [hp] at r; exact ⟨p0, rfl, r⟩
  refine call_meetsIn PySem.F.slot_dict_pop dd.typeIs PySem.F.entry_dict_pop (PySem.F.args_dict_pop_2 _ _) (meetsPop1 (knd := mixKind X.prog X.w) (k := k) hd)
    ⟨xs', tupleKind_room_in1 hu, key_of I.hok hb, dd, hz, ⟨p0, hp0⟩, fun p hp h' tk dd' hs => ?_⟩
  rw [hp0] at hp
  cases hp
  obtain ⟨o, es, ep, hq, h2, h3, h4, _, h5⟩ := dd'
  have I2 : Inv X pins σ (upd H a (.dT (dropK kvs k))) { s with heap := h', toks := tk } :=
    d_write I (by rw [ha]; exact True.intro) hs ⟨o, hq⟩ ⟨Nat.le_trans (dropK_le kvs k) z, hd, _, (L2.DX.KT_drop k rel).keeps (fun c ys ec => (by rw [upd_ne (ne_of ec ha (fun z => nomatch z))]; exact ec)), o, es, ep, hq, h2, h3, h4, h5⟩
  show EP X pins σ Q p0.2 _
  exact ⟨v0, _, I2, rv0, q⟩
end
end Ns
namespace Ns
open PySem PySem.Spec PyProof.Rows L2
/-! ### dict(pairs), the keys being tuples -/
def mergeT (kvs more : DT) : DT := more.foldl (fun acc kv => putK acc kv.1 kv.2) kvs
theorem mergeT_len : ∀ (more kvs : DT), (mergeT kvs more).length ≤ kvs.length + more.length
  | [], kvs => by simp [mergeT]
  | kv :: more, kvs => by
    have h1 := mergeT_len more (putK kvs kv.1 kv.2)
    have h2 := length_putK kvs kv.1 kv.2
    rw [List.length_cons]
    show (mergeT (putK kvs kv.1 kv.2) more).length ≤ _
    omega
theorem kt_merge {H : Hp} : ∀ (more : DT) (ps : List (List Key × Addr × Value)) (kvs : DT) (xs : List (List Key × Addr × Value)), KT H more ps → KT H kvs xs → KT H (mergeT kvs more) (storedAllH xs ps)
  | [], [], _, _, _, h => h
  | kv :: more, x :: ps, kvs, xs, .cons p t, h => by
    have e := p.1
    have h2 : KT H (putK kvs kv.1 kv.2) (storedH xs x.1 x.2.1 x.2.2) := by
      rw [← e]
      exact h.put _ p.2.1 p.2.2
    exact kt_merge more ps _ _ t h2
section
variable {X : Cx}
/-- the pairs that stand in a list -/
def PairsT (H : Hp) (ps : List Addr) (kvs : DT) : Prop := Paired (fun p (kv : List Key × V) => ∃ b, H p = some (.tup [.ref b, kv.2]) ∧ H b = some (.tup (kv.1.map kV))) ps kvs
theorem pairsT_vals {P : Program} {w : World} {H : Hp} {h : Heap} (ok : HOk P w H h) : ∀ {ps : List Addr} {kvs : DT}, PairsT H ps kvs → ∃ xs : List (List Key × Addr × Value), KT H kvs xs ∧ Paired (fun p (x : List Key × Addr × Value) => h.IsTuple p #[.ref x.2.1, x.2.2]) ps xs
  | _, _, .nil => ⟨[], .nil, .nil⟩
  | _, _, .cons ⟨b, h1, h2⟩ t => by
    obtain ⟨xs, k1, k2⟩ := pairsT_vals ok t
    obtain ⟨_, its2, r2, o, ho, hc, n, hd⟩ := ok _ _ h1
    obtain ⟨u1, u2, rfl, ri, rj⟩ := vals2 r2
    cases ri
    exact ⟨(_, b, u2) :: xs, .cons ⟨rfl, h2, rj⟩ k1, .cons ⟨o, ho, hc, n, hd⟩ k2⟩
def rDictOfT (K : PySem.W.Frag) : List V → Hp → VK → Prop := fun xs H Q => ∃ (a : Addr) (ps : List Addr) (kvs : DT), xs = [.ref a] ∧ SqL K H a (ps.map V.ref) ∧ PairsT H ps kvs ∧ ∀ p, H p = none → Q (.ref p) (upd H p (.dT (mergeT [] kvs)))
theorem call_dictT {K : PySem.W.Frag} (hK : X.K = K) (hc : X.calm = true) (hu : X.A.units + 100 < cLine) : CallR X (.type "dict") (rDictOfT K) := by
  subst hK
  intro pins s σ H vs us Q I r h
  obtain ⟨a, ps, kvs, rfl, hs, hp, q⟩ := h
  obtain ⟨u, rfl, rx⟩ := vals1 r
  cases rx
  obtain ⟨its, rv, pl, hz⟩ := I.list hs
  have ei := refs_at rv
  subst ei
  obtain ⟨xs, kt, pr⟩ := pairsT_vals I.hok hp
  have lp := Paired.length pr
  rw [List.length_map] at hz
  obtain ⟨o, n, ho, hcl, hdd, hdat⟩ := pl
  have sysm : (s.heap.objs.size == sysModules) = false := beq_eq_false_iff_ne.mpr (Nat.ne_of_gt I.big)
  refine PySem.call_dict_pairsH (knd := tupleKind (mixKind X.prog X.w)) (ps := xs) (n := (xs.map fun x => ((Value.ref x.2.1 : Value), x.2.2)).length)
    (PairArg.list a (ps.map Value.ref).toArray (fun j => ps.getD j 0) (xs.map fun x => (Value.ref x.2.1, x.2.2))) (I.ok.hd hc) (tupleKind_room_in1 (by show X.A.units + 1 + 1 < cLine; omega)) ⟨⟨o, n, ho, hcl, hdd, hdat⟩, ?gsize, ?gitems⟩ ⟨by simp, ?ghave⟩ ?gstay ?glen fun h' tk hd' hk => ?gend
  case gsize =>
    simp [lp]
  case gitems =>
    intro j k v hj
    rw [List.getElem?_map] at hj
    cases hx : xs[j]? with
    | none => rw [hx] at hj; cases hj
    | some x =>
      rw [hx] at hj
      cases hj
      obtain ⟨p, h1, h2⟩ := pAt pr hx
      refine ⟨?_, ?_⟩
      · simp [h1]
      · show PairAt s.heap (ps.getD j 0) _ _
        rw [show ps.getD j 0 = p by simp [List.getD, h1]]
        exact .inl h2
  case ghave =>
    intro i key v hi
    have hi : (xs.map fun x => ((Value.ref x.2.1 : Value), x.2.2))[i]? = some (key, v) := hi
    rw [List.getElem?_map] at hi
    cases hx : xs[i]? with
    | none => rw [hx] at hi; cases hi
    | some x =>
      rw [hx] at hi
      cases hi
      exact ⟨x.1, x.2.1, rfl, rfl⟩
  case gstay =>
    intro h' hk x hx
    have hok : HOk X.prog X.w H h' := fun b ob e => (I.hok b ob e).stay (fun c u _ e2 => hk c u (Nat.ne_of_lt (Heap.lt_size e2)) (by simp) e2) (fun _ q => q) (fun _ _ q => q)
    obtain ⟨kv, hkv, e1, e2, _⟩ := pMem kt hx
    rw [← e1]
    exact key_of hok e2
  case glen =>
    simp only [List.length_map]
    omega
  case gend =>
    have hlen : (mergeT [] kvs).length ≤ sizeLine := by
      have h1 := mergeT_len kvs []
      have h2 := Paired.length kt
      simp at h1
      omega
    have hfr := I.hok.fresh (a := s.heap.objs.size) (Nat.le_refl _)
    obtain ⟨o2, es, ep, hq, h2, h3, h4, _, h5⟩ := hd'
    refine ⟨.ref s.heap.objs.size, upd H s.heap.objs.size (.dT (mergeT [] kvs)), I.laid (t' := tk) (fun b u e => hk b u (by simp) e) (Nat.le_refl _) (show ObjOk X.prog X.w _ _ _ (.dT (mergeT [] kvs)) from ⟨hlen, sysm, storedAllH [] xs, ?_, o2, es, ep, hq, h2, h3, h4, h5⟩), rfl, q _ hfr⟩
    exact (kt_merge kvs xs [] [] kt .nil).keeps fun b ys e => by
      rw [upd_ne (ne_of_none e hfr)]
      exact e
end
end Ns
namespace Ns
open PySem PySem.Spec PyProof.Rows L2
/-! ### t.index(x), whole numbers -/
theorem flat_ints (ys : List Int) : (ys.map V.int).all flatV = true := by
  rw [List.all_map]
  exact List.all_eq_true.mpr fun _ _ => rfl
section
variable {X : Cx}
def rTIndex (K : PySem.W.Frag) : V → List V → Hp → VK → Prop := fun x xs H Q => ∃ (p : Addr) (ys : List Int) (z : Int) (j : Nat), x = .ref p ∧ xs = [.int z] ∧ SqT K H p (ys.map V.int) ∧ ys[j]? = some z ∧ (∀ m, m < j → ys[m]? ≠ some z) ∧ Q (.int (j : Nat)) H
theorem mt_tindex {K : PySem.W.Frag} (hK : X.K = K) : MtR X "tuple.index" (rTIndex K) := by
  subst hK
  intro pins s σ H x xs v us Q I rx rs h
  obtain ⟨p, ys, z, j, rfl, rfl, hq, hy, hno, q⟩ := h
  cases rx
  obtain ⟨u, rfl, t, rfl⟩ := vals1 rs
  obtain ⟨its, r, pl, hz⟩ := I.tuple hq
  obtain ⟨⟨cls, dd, dt, sl⟩, ho, hc, n, hd⟩ := pl
  simp only at hc hd
  subst hc
  subst hd
  have hl : its.toArray.size = ys.length := by rw [List.size_toArray, ← r.length, List.length_map]
  have hj : j < its.toArray.size := by rw [hl]; exact (List.getElem?_eq_some_iff.mp hy).1
  have at' : ∀ (m : Nat) (hm : m < its.toArray.size), ∃ y t', ys[m]? = some y ∧ its.toArray[m] = Value.int y t' := fun m hm => by
    have hm' : m < ys.length := by rw [← hl]; exact hm
    obtain ⟨w, hw, t', hw'⟩ := r.get (i := m) (x := .int ys[m]) (by simp [hm'])
    refine ⟨ys[m], t', List.getElem?_eq_getElem hm', ?_⟩
    have e := (List.getElem?_eq_some_iff.mp hw).2
    rw [← hw', ← e]
    simp
  refine call_meets PySem.F.slot_tuple_index ⟨_, ho, rfl⟩ PySem.F.entry_tuple_index (PySem.F.args_tuple_index_2 _ _) (TI.tuple_indexAt p its.toArray n dd sl (.int z t) (eqU (.int z)) j hj ?_ ?_)
    ⟨ho, fun w hw => mem_eqAt (x := .int z) ⟨t, rfl⟩ rfl r (flat_ints ys) w (by simpa using hw), ⟨.int (j : Nat), H, I.tok _, ⟨_, rfl⟩, q⟩⟩
  · obtain ⟨y, t', h1, h2⟩ := at' j hj
    rw [hy] at h1
    cases h1
    rw [h2]
    show (z == z) = true
    exact beq_self_eq_true z
  · intro m hm hmj
    obtain ⟨y, t', h1, h2⟩ := at' m hm
    rw [h2]
    show (y == z) = false
    exact beq_eq_false_iff_ne.mpr fun e => hno m hmj (e ▸ h1)
end
end Ns
namespace Ns
open PySem PySem.Spec PyProof.Rows L2
/-! ### tuples whose object is known -/
section
variable {X : Cx}
/-- tuple(xs) of a list: the new tuple's object is known, it has no dict -/
def rTupOfF (K : PySem.W.Frag) : List V → Hp → VK → Prop := fun xs H Q => ∃ p ys, xs = [.ref p] ∧ SqL K H p ys ∧ ∀ (l : Addr) (o : Obj), H l = none → o.dict = none → Q (.ref l) (upd H l (.frz o (.tup ys)))
theorem call_tuple_ofF {K : PySem.W.Frag} (hK : X.K = K) : CallR X (.type "tuple") (rTupOfF K) := by
  subst hK
  intro pins s σ H xs us Q I r h
  obtain ⟨p, ys, rfl, hq, q⟩ := h
  obtain ⟨u, rfl, rx⟩ := vals1 r
  cases rx
  obtain ⟨its, r', pl, hz⟩ := I.list hq
  have hlen := r'.length
  refine call_tuple_list pl.isList (fun h' kp => ?_) (by simp only [List.size_toArray] <;> omega)
  have I1 : Inv X pins σ H { s with heap := h' } := I.kept (t' := s.toks) kp
  have I2 : Inv X pins σ (upd H h'.objs.size (.frz { cls := .type "tuple", data := .seq its.toArray } (.tup ys))) { s with heap := h'.push { cls := .type "tuple", data := .seq its.toArray } } :=
    I1.laid (t' := s.toks) (fun b o e => Heap.get?_push_of_some _ e) (Nat.le_refl _) (show ObjOk X.prog X.w _ _ _ (.frz _ (.tup ys)) from ⟨Heap.get?_push_size _ rfl, hz, its, r', IsTup.new _ _⟩)
  exact ⟨.ref h'.objs.size, _, I2, rfl, q _ _ (I1.hok.fresh (Nat.le_refl _)) rfl⟩
variable {o e : Expr} {es : List Expr} {to : TE} {t : TA} {name : Str} {apos cpos : Pos} {id : String} {r : V → List V → Hp → VK → Prop}
def tBMF (r : V → List V → Hp → VK → Prop) (to : TE) (t : TA) : TE := fun σ H Q => to σ H fun x H1 => (∃ (p : Addr) (o : Obj) (xs : List V), x = .ref p ∧ H1 p = some (.frz o (.tup xs)) ∧ o.dict = none) ∧ t σ H1 fun xs H2 => r x xs H2 Q
/-- a method of a tuple whose object is known -/
theorem pe_bmF (pa : PlainAttrs "tuple") (slot : Slot "tuple" name id) (hty : typeOf (.builtin id) = pure (.type "method_descriptor")) (hm : MtR X id r) (ho : PE X o to) (ha : PA X (e :: es) t)
    (hbase : attributeBase o name X.env (eval o X.env) = eval o X.env := by rfl)
    (hfew : ((backTo cpos (starEach (e :: es) X.env)).all (fun x => !x.1) && (backToKw cpos (keywordEach [] X.env)).all (fun x => x.1.isSome)
      && decide ((e :: es).length + ([] : List Keyword).length + (if ([] : List Keyword).isEmpty then 0 else 1) < 30)) = true := by rfl)
    (hline : (apos.endLine == cpos.line) = true := by rfl) (hs : starEach (e :: es) X.env = (false, eval e X.env) :: starEach es X.env := by rfl) (hplain : (backTo cpos (starEach es X.env)).any (·.1) = false := by rfl) :
    PE X (.Call (.Attribute o name apos) (e :: es) [] cpos) (tBMF r to t) := by
  refine ⟨fun pins s σ H Q I h => ?_⟩
  refine wpAny_Call_method_late hbase hfew hline rfl (thn (ho.run pins s σ H _ I h) fun v s1 ⟨x, H1, I1, r1, ty, q1⟩ => ?_)
  obtain ⟨p, ob, xs, ex, hp, hd⟩ := ty
  subst ex
  have r1' := r1
  cases r1
  obtain ⟨hg, hz, its, rv, o2, ho2, hc2, n2, hd2⟩ := (show ObjOk X.prog X.w H1 s1.heap p (.frz ob (.tup xs)) from I1.hok p _ hp)
  refine ⟨"tuple", id, pa, slot, hty, ⟨o2, ho2, hc2⟩, fun a e => ?_, ?_⟩
  · cases e
    exact ⟨ob, hg, hd⟩
  · have hA := ha.run cpos pins s1 σ H1 _ I1 q1
    rw [hs] at hA ⊢
    refine Calls.callWith_builtin (by show (false || (backTo cpos (starEach es X.env)).any (·.1)) = false; rw [hplain] <;> rfl) (Calls.evalArgs_plain ?_)
    exact thn hA fun us s2 ⟨vs, H2, I2, r2, q2⟩ => hm pins s2 σ H2 _ vs _ us Q I2 r1' r2 q2
end
end Ns

/-! Own layer Lam: sorted by a lambda's keys. -/
namespace Ns
open PySem PySem.Spec PyProof.Rows L2
/-! ### evaluation that keeps all that was there -/
def Kps (h h' : Heap) : Prop := ∀ b o, h.get? b = some o → h'.get? b = some o
theorem Kps.refl (h : Heap) : Kps h h := fun _ _ e => e
theorem Kps.trans {h h' h'' : Heap} (a : Kps h h') (b : Kps h' h'') : Kps h h'' := fun c o e => b c o (a c o e)
/-- in each heap that keeps h0's objects e gives what Pv says, and keeps all -/
def EvK (M : Model) (A : Around) (env : Env) (h0 : Heap) (e : Expr) (Pv : Value → Heap → Prop) : Prop :=
  ∀ (s : Shared) (Q E : Value → Shared → Prop), Kps h0 s.heap → (∀ v h' tk, Kps s.heap h' → Pv v h' → Q v { s with heap := h', toks := tk }) → wpAny M A (eval e env) Q E s
section
variable {M : Model} {P : Program} {w : World} {A : Around} {env : Env} {h0 : Heap} {e a b : Expr} {pos p : Pos} {x : Str}
theorem ev_local {m : Str → Option Value} {u : Value} (hk : env.scope.kind = .function) (hl : env.kindOf x = some .local) (hn : h0.Ns env.locals m) (hv : m x = some u) (hd : (x == ("__debug__" : Str)) = false := by decide) :
    EvK M A env h0 (.Name x pos) fun v _ => v = u := fun s Q E k q => wpAny_Name (wpAny_loadName_local hk hl (hn.keeps k) hv (q u s.heap s.toks (Kps.refl _) rfl)) hd
theorem ev_free {c : Addr} {u : Value} (hk : env.scope.kind = .function) (hl : env.kindOf x = some .free) (hc : env.cells.lookup x = some c) (hv : h0.IsCell c (some u)) (hcd : (x == ("__classdict__" : Str)) = false := by decide) (hd : (x == ("__debug__" : Str)) = false := by decide) :
    EvK M A env h0 (.Name x pos) fun v _ => v = u := fun s Q E k q => wpAny_Name (wpAny_loadName_free hk hl hc (by obtain ⟨o, h1, h2⟩ := hv; exact ⟨o, k _ _ h1, h2⟩) (q u s.heap s.toks (Kps.refl _) rfl) hcd) hd
theorem ev_neg {i : Int} (ha : EvK (model P w) A env h0 a fun v _ => ∃ t, v = .int i t) : EvK (model P w) A env h0 (.UnaryOp .USub a pos) fun v _ => ∃ t, v = .int (-i) t := fun s Q E k q =>
  UnaryOp_ (ha s _ E k fun v h' tk k' ⟨t, e⟩ => by
    subst e
    exact neg_int (q _ h' _ k' ⟨_, rfl⟩))
theorem ev_item {l : Addr} {items : Array Value} {i : Int} {u : Value} (ha : EvK (model P w) A env h0 a fun v _ => v = .ref l) (hb : EvK (model P w) A env h0 b fun v _ => ∃ t, v = .int i t) (hp : PlainIx b) (hl : h0.IsList l items) (i0 : 0 ≤ i) (i1 : i < 2 ^ 63) (hx : items[i.toNat]? = some u) :
    EvK (model P w) A env h0 (.Subscript a b pos) fun v _ => v = u := fun s Q E k q =>
  Subscript_ (ha s _ E k fun v h' tk k' e => by
    subst e
    refine hb _ _ E (k.trans k') fun v2 h2 tk2 k2 ⟨t, e2⟩ => ?_
    subst e2
    refine item_listR (items := items) ?_ i0 i1 hx (q u h2 tk2 (k'.trans k2) rfl) (hp _ _)
    obtain ⟨o, h1, h3⟩ := hl
    exact ⟨o, k2 _ _ (k' _ _ (k _ _ h1)), h3⟩)
theorem ev_titem {l : Addr} {items : Array Value} {i : Int} {j : Nat} {u : Value} (ha : EvK (model P w) A env h0 a fun v _ => v = .ref l) (hb : EvK (model P w) A env h0 b fun v _ => ∃ t, v = .int i t) (hp : PlainIx b) (hl : IsTup h0 l items) (i0 : -(2 ^ 63) ≤ i) (i1 : i < 2 ^ 63) (hj : seqIndex? i items.size = some j) (hx : items[j]? = some u) :
    EvK (model P w) A env h0 (.Subscript a b pos) fun v _ => v = u := fun s Q E k q =>
  Subscript_ (ha s _ E k fun v h' tk k' e => by
    subst e
    refine hb _ _ E (k.trans k') fun v2 h2 tk2 k2 ⟨t, e2⟩ => ?_
    subst e2
    have ht : IsTup h2 l items := by
      obtain ⟨o, h1, h3⟩ := hl
      exact ⟨o, k2 _ _ (k' _ _ (k _ _ h1)), h3⟩
    exact subscriptTail_builtinR (x := u) ht.typeIs slot_tuple_getitem.lookup (getItem_tuple (j := j) (Q := fun r s' => r = u ∧ Q r s') ht i0 i1 hj hx ⟨rfl, q u h2 tk2 (k'.trans k2) rfl⟩) (hp _ _))
/-- (a, b), of whole numbers -/
theorem ev_pair {i j : Int} {x1} (ha : EvK (model P w) A env h0 a fun v _ => ∃ t, v = .int i t) (hb : EvK (model P w) A env h0 b fun v _ => ∃ t, v = .int j t)
    (he : backTo pos (starEach [a, b] env) = [(false, eval a env), (false, eval b env)] := by rfl) :
    EvK (model P w) A env h0 (.Tuple [a, b] x1 pos) fun v h' => Reads h' v (.tuple [.int i, .int j]) [] := fun s Q E k q => by
  refine wpAny_Tuple_spliced ?_
  rw [he]
  refine Calls.spliced_cons (ha s _ E k fun v h' tk k' ⟨t, e⟩ => ?_)
  subst e
  refine Calls.spliced_cons (hb _ _ E (k.trans k') fun v2 h2 tk2 k2 ⟨t2, e2⟩ => ?_)
  subst e2
  refine Calls.spliced_nil ⟨by show 2 ≤ sizeLine; decide, ?_⟩
  exact q _ _ _ (fun b o e => Heap.get?_push_of_some _ (k2 _ _ (k' _ _ e))) (.tuple (Heap.get?_push_size _ rfl) rfl rfl (.cons (.int _ _) (.cons (.int _ _) .nil)))
/-- len(a), a a list -/
theorem ev_len {l : Addr} {items : Array Value} {mg mb : Str → Option Value} (hk : env.scope.kind = .function) (hg : env.kindOf "len" = some .globalImplicit) (eg : h0.Ns env.globals mg) (hm : mg "len" = none) (eb : h0.Ns env.builtins mb) (hb : mb "len" = some (.builtin "len"))
    (ha : EvK (model P w) A env h0 a fun v _ => v = .ref l) (hl : h0.IsList l items) (hz : items.size < 2 ^ 63) (he : starEach [a] env = (false, eval a env) :: starEach [] env := by rfl) (hpl : (backTo pos (starEach [] env)).any (·.1) = false := by rfl) (hb1 : backTo pos (starEach [a] env) = [(false, eval a env)] := by rfl) :
    EvK (model P w) A env h0 (.Call (.Name "len" p) [a] [] pos) fun v _ => ∃ t, v = .int items.size t := fun s Q E k q => by
  refine wpAny_Call_Name_kw (Calls.Name_function_global hk hg (Calls.loadGlobal_builtin (eg.keeps k) hm (eb.keeps k) hb ?_) (by decide))
  refine PyProof.Rows.callWith_builtin1 ?_ he hpl
  rw [hb1]
  refine Calls.spliced_cons (ha _ _ E k fun v h' tk k' e => ?_)
  subst e
  refine Calls.spliced_nil ?_
  refine Calls.call_len_list (items := items) ?_ (by omega) (q _ h' _ k' ⟨_, rfl⟩)
  obtain ⟨o, h1, h3⟩ := hl
  exact ⟨o, k' _ _ (k _ _ h1), h3⟩
end
/-! ### a lambda of one parameter -/
/-- its names: the parameter x, captured ones, globals -/
structure LamS1 (sc scope : Scope) (x : Str) : Prop where
  kind : scope.kind = .function
  co : scope.isCoroutine = false
  gen : scope.isGenerator = false
  cel : ∀ y ∈ scope.names, y.2 ≠ .cell
  par : scope.names.lookup x = some .local
  free : ∀ y ∈ scope.names, y.2 = .free → sc.names.lookup y.1 = some .cell ∨ sc.names.lookup y.1 = some .free
def lamS1B (sc scope : Scope) (x : Str) : Bool :=
  decide (scope.kind = .function) && !scope.isCoroutine && !scope.isGenerator && decide (scope.names.lookup x = some .local) && scope.names.all fun y => !decide (y.2 = .cell) && (!decide (y.2 = .free) || decide (sc.names.lookup y.1 = some .cell) || decide (sc.names.lookup y.1 = some .free))
theorem lamS1_by {sc scope : Scope} {x : Str} (h : lamS1B sc scope x = true) : LamS1 sc scope x := by
  unfold lamS1B at h
  simp only [Bool.and_eq_true, Bool.or_eq_true, Bool.not_eq_true', decide_eq_true_eq, decide_eq_false_iff_not, List.all_eq_true] at h
  obtain ⟨⟨⟨⟨h1, h2⟩, h3⟩, h5⟩, h4⟩ := h
  refine ⟨h1, h2, h3, fun y hy => (h4 y hy).1, h5, fun y hy e => ?_⟩
  rcases (h4 y hy).2 with (z | z) | z
  · exact absurd e z
  · exact .inl z
  · exact .inr z
open LamX
section
variable {X : Cx} {pins : List (Addr × Obj)} {σ : L2.St} {H : Hp} {s : Shared}
theorem LamS1.has {scope : Scope} {x : Str} (L : LamS1 X.env.scope scope x) (ok : X.Ok) : ∀ y ∈ scope.names, y.2 = .free → ∃ c, X.env.cells.lookup y.1 = some c := fun y hy e => by
  rcases L.free y hy e with k | k
  · exact ok.has _ (.inl k)
  · exact ok.has _ (.inr k)
/-- what a captured name says there -/
theorem lam_cell {scope : Scope} {x y : Str} {i : Nat} {v : V} (I : Inv X pins σ H s) (L : LamS1 X.env.scope scope x) (hy : scope.names.lookup y = some .free) (hN : X.N[i]? = some y) (hσ : σ[i]? = some (some v)) :
    ∃ c u, (cloFrom X.env.cells scope.names []).lookup y = some c ∧ RelV v u ∧ s.heap.IsCell c (some u) := by
  have hfree := L.has I.ok
  have hm : (y, NameKind.free) ∈ scope.names := PySem.mem_of_lookup hy
  obtain ⟨c, hc⟩ := mem_lookup (cloFrom_has (cells := X.env.cells) (acc := []) hm)
  have cm : X.env.cells.lookup y = some c := by
    rcases cloFrom_mem (PySem.mem_of_lookup hc) with hm | ⟨h1, h2⟩
    · cases hm
    · obtain ⟨c1, hc1⟩ := hfree _ h1 rfl
      have hc1 : X.env.cells.lookup y = some c1 := hc1
      have e2 : c = c1 := by
        rw [h2, hc1] <;> rfl
      rw [e2]
      exact hc1
  obtain ⟨m, hn, hl⟩ := I.loc
  have hk : X.env.scope.names.lookup y = some .cell ∨ X.env.scope.names.lookup y = some .free := L.free _ hm rfl
  have hvis : Vis X.env.scope y := hk.elim (fun k => .inr (.inl k)) (fun k => .inr (.inr k))
  obtain ⟨w', r, q⟩ := hl i y v hN hσ hvis
  rcases q with ⟨k', _⟩ | ⟨_, c3, e', z⟩
  · have k' : X.env.scope.names.lookup y = some .local := k'
    rcases hk with k2 | k2 <;> rw [k2] at k' <;> cases k'
  · rw [cm] at e'
    cases e'
    exact ⟨_, w', hc, r, z⟩
/-- the call f(x), where the body is pure -/
theorem lam_pure {A : Around} {params : Arguments} {body : Expr} {scope : Scope} {x : Str} {f c' : Addr} {pm ctv u : Value} {d : PyData} {h : Heap} {tk : Nat} (I : Inv X pins σ H s) (L : LamS1 X.env.scope scope x) (hA : A.depth < recursionLimit)
    (hf : s.heap.get? f = some (PySem.W.kla_obj "<lambda>" (X.env.qual ++ "<lambda>") params body scope (cloFrom X.env.cells scope.names []) pm c' ctv)) (hc : H c' = some (CodeO c' (X.env.qual ++ "<lambda>")))
    (hbind : bindArgs (PySem.W.kla_fn "<lambda>" (X.env.qual ++ "<lambda>") params body scope (cloFrom X.env.cells scope.names []) pm (.ref c') ctv) ⟨[u], []⟩ = pure [(x, u)]) (kp : Kps s.heap h)
    (hbody : ∀ (L' : Addr) (h1 : Heap), Kps s.heap h1 → (h1.Ns L' fun y => [(x, u)].reverse.lookup y) → EvK (model X.prog X.w) (A.deeper (lamEnv X scope L' f c')) (lamEnv X scope L' f c') h1 body fun v h' => Reads h' v d []) :
    wpAny (model X.prog X.w) A (call (.ref f) [u]) (PySem.W.KeyPure d { s with heap := h, toks := tk }) (fun _ _ => False) { s with heap := h, toks := tk } := by
  obtain ⟨⟨oc, vs, t, hoc, hdc, hvc⟩, _, _⟩ := I.hok c' _ hc
  refine wpAny_call ?_
  refine PySem.W.kla_callFunE (s := { s with heap := h, toks := tk }) hA (kp _ _ hf) rfl L.co L.gen rfl ⟨c', oc, vs, t, rfl, kp _ _ hoc, hdc, hvc⟩ ?_
  rw [hbind]
  refine wpAny_pure (wpAny_newFunctionEnv L.cel (fun y hy => by rw [List.mem_singleton.mp hy]; exact L.par) (fun h₁ hns hsb => ⟨(I.nolimit.keeps kp).fresh _ hsb, ?_⟩) L.kind)
  have k1 : Kps h h₁ := fun b o e => hsb.extBut b o (Nat.ne_of_lt (Heap.lt_size e)) (Heap.get?_push_of_some _ e)
  show codeAny _ _ (.expr body (lamEnv X scope h.objs.size f c')) _ _
  refine PySem.W.kla_codeExpr (hbody _ h₁ (kp.trans k1) hns _ _ _ (Kps.refl _) fun v h' tk2 k2 r => ?_)
  exact ⟨h', tk2, rfl, k1.trans k2, r⟩
theorem each_of_vals : ∀ {xs : List V} {us : List Value}, Vals xs us → PySem.W.EachIs (fun u x => RelV x u) us xs
  | _, _, .nil => .nil
  | _, _, .cons h t => .cons h (each_of_vals t)
theorem vals_of_each : ∀ {us : List Value} {xs : List V}, PySem.W.EachIs (fun u x => RelV x u) us xs → Vals xs us
  | _, _, .nil => .nil
  | _, _, .cons h t => .cons h (vals_of_each t)
end
/-! ### sorted(e, key=lambda x: ..) -/
def tSortL (K : PySem.W.Frag) (T : List (Addr × Str)) (te : TE) (rd : L2.St → Hp → V → PyData → Prop) : TE := fun σ H Q => te σ H fun v H1 => Tabs T H1 ∧ ∃ (a : Addr) (xs : List V) (k : V → PyData), v = .ref a ∧ SqL K H1 a xs ∧
  PySem.W.AllAlike (xs.map k) ∧ PySem.W.Sortable (xs.map k) ∧ (∀ x ∈ xs, (k x).depth ≤ 8) ∧ (∀ x ∈ xs, rd σ H1 x (k x)) ∧
  ∀ (p : Addr) (H2 : Hp), ExtN H1 H2 → Tabs T H2 → H2 p = none → Q (.ref p) (upd H2 p (.lst (xs.mergeSort (PySem.W.dataLe false k))))
theorem pe_sortL {X : Cx} {k : Nat} {T : List (Addr × Str)} {c P : Addr} {e : Expr} {te : TE} {rd : L2.St → Hp → V → PyData → Prop} {params : Arguments} {body : Expr} {scope : Scope} {x : Str} {p lpos kpos pos : Pos} (hg : Gl X "sorted") (hm : X.mg "sorted" = none) (ha : PE X e te) (hr : Room (k + 1) X.A)
    (TB : TabB X.base X.mg c P) (hcode : X.env.code = .ref c) (hmT : (P, X.env.qual ++ "<lambda>") ∈ T) (hu : ∀ p ∈ T, p.1 = P → p.2 = X.env.qual ++ "<lambda>") (L : LamS1 X.env.scope scope x) (hdef : defaultsOf params X.env = ([], []))
    (hbind : ∀ (q : Str) (cl : List (Str × Addr)) (pm cv ctv u : Value), bindArgs (PySem.W.kla_fn "<lambda>" q params body scope cl pm cv ctv) ⟨[u], []⟩ = pure [(x, u)])
    (hst : ∀ σ H H' y d, rd σ H y d → ExtN H H' → rd σ H' y d)
    (hbody : ∀ (pins : List (Addr × Obj)) (σ : L2.St) (H : Hp) (s : Shared) (A : Around) (f c' L' : Addr) (h1 : Heap) (y : V) (u : Value) (d : PyData), Inv X pins σ H s → rd σ H y d → RelV y u → Kps s.heap h1 → (h1.Ns L' fun y => [(x, u)].reverse.lookup y) → EvK (model X.prog X.w) A (lamEnv X scope L' f c') h1 body fun v h' => Reads h' v d [])
    (he : backTo pos (starEach [e] X.env) = (false, eval e X.env) :: backTo pos (starEach [] X.env) := by rfl) (hpl : (backTo pos (starEach [e] X.env)).any (·.1) = false := by rfl) :
    PE X (.Call (.Name "sorted" p) [e] [⟨some "key", .Lambda params body scope lpos, kpos⟩] pos) (tSortL X.K T te rd) := by
  refine ⟨fun pins s σ H Q I h => ?_⟩
  refine wpAny_Call_Name_kw (ld_blt I hg hm (by rfl) ?_ (by decide) (by decide))
  refine PyProof.Rows.callWith_kw ?_ he hpl (by rfl) (by rfl)
  rw [he]
  refine Calls.spliced_cons (thn (ha.run pins s σ H _ I h) fun v s1 ⟨v0, H1, I1, r1, q1⟩ => ?_)
  obtain ⟨hT, a, xs, kk, rfl, hs, hal, hso, hdp, hrd, q⟩ := q1
  cases r1
  refine Calls.spliced_nil ?_
  show wpAny _ _ (evalAll ((do let v ← eval (.Lambda params body scope lpos) X.env; standAt pos; pure v) :: (backToKw pos (keywordEach [] X.env)).map (·.2))) _ _ s1
  refine wpAny_evalAll_cons (wpAny_bind (lam_make2 I1 TB hcode hmT hu hT hdef (L.has I1.ok) fun f c' pm' ctv H2 s2 I2 eN T2 hf hfn hfr hco => wpAny_bind (wpAny_standAt (wpAny_pure ?_))))
  refine wpAny_evalAll_nil ?_
  have hs2 : SqL X.K H2 a xs := by
    rcases hs with (h | ⟨o, h⟩) | h
    · exact .inl (.inl (eN _ _ h fun _ z => by cases z))
    · exact .inl (.inr ⟨o, eN _ _ h fun _ z => by cases z⟩)
    · exact .inr h
  obtain ⟨its, rv, pl, hz⟩ := I2.list hs2
  have lv := rv.length
  show wpAny (model X.prog X.w) X.A (call (.builtin "sorted") [.ref a] [(Str.ofString "key", .ref f)]) _ _ s2
  refine PySem.W.sorted_key_data (b := false) (R := fun u y => RelV y u) (vs := its) (bs := xs) kk pl.isList (each_of_vals rv) hal hso hz (fun y hy => ?_) (ksk_s1 _ _) (fun _ => ksk_l1 _ _) (fun _ => ksk_t1 _ _) (fun u y r hy h tk kp => ?_) fun out c2 h' tk kp n1 hD lo eo => ?_
  · have := hdp y hy
    have := hr.un
    omega
  · refine lam_pure I2 L ?_ hf hco (hbind _ _ _ _ _ _) kp fun L' h1 k1 hn => hbody pins σ H2 s2 _ f c' L' h1 y u (kk y) I2 (hst _ _ _ _ _ (hrd y hy) eN) r k1 hn
    exact hr.in1.depth
  · have hp2 : H2 (s2.heap.objs.size + 1) = none := I2.hok.fresh (Nat.le_succ _)
    refine ⟨.ref (s2.heap.objs.size + 1), _, I2.laid (t' := tk) kp (Nat.le_succ _) ?_, rfl, q _ H2 eN T2 hp2⟩
    exact ⟨by rw [(List.mergeSort_perm xs _).length_eq]; exact hz, out, c2, vals_of_each eo, hD⟩
end Ns
namespace Ns
open PySem PySem.Spec PyProof.Rows L2 LamX
theorem sqL_ext {K : PySem.W.Frag} {H H' : Hp} {a : Addr} {xs : List V} (e : ExtN H H') (h : SqL K H a xs) : SqL K H' a xs := by
  rcases h with (h | ⟨o, h⟩) | h
  · exact .inl (.inl (e _ _ h fun _ z => by cases z))
  · exact .inl (.inr ⟨o, e _ _ h fun _ z => by cases z⟩)
  · exact .inr h
theorem sqT_ext {K : PySem.W.Frag} {H H' : Hp} {a : Addr} {xs : List V} (e : ExtN H H') (h : SqT K H a xs) : SqT K H' a xs := by
  rcases h with (h | ⟨o, h⟩) | h
  · exact .inl (.inl (e _ _ h fun _ z => by cases z))
  · exact .inl (.inr ⟨o, e _ _ h fun _ z => by cases z⟩)
  · exact .inr h
/-- (-len(a[x]), x), a in slot i -/
def rdNL (K : PySem.W.Frag) (i : Nat) : L2.St → Hp → V → PyData → Prop := fun σ H y d => ∃ (m ax : Addr) (rows ws : List V) (z : Nat), σ[i]? = some (some (.ref m)) ∧ SqL K H m rows ∧ y = pI z ∧ rows[z]? = some (.ref ax) ∧ SqL K H ax ws ∧ d = .tuple [.int (-(ws.length : Int)), .int (z : Int)]
theorem rdNL_ext (K : PySem.W.Frag) (i : Nat) (σ : L2.St) (H H' : Hp) (y : V) (d : PyData) (h : rdNL K i σ H y d) (e : ExtN H H') : rdNL K i σ H' y d := by
  obtain ⟨m, ax, rows, ws, z, h1, h2, h3, h4, h5, h6⟩ := h
  exact ⟨m, ax, rows, ws, z, h1, sqL_ext e h2, h3, h4, sqL_ext e h5, h6⟩
theorem body_negLen {X : Cx} {scope : Scope} {x a : Str} {i : Nat} {kk} {p1 p2 p3 p4 p5 p6 p7 p8 : Pos} (L : LamS1 X.env.scope scope x) (hN : X.N[i]? = some a) (hx : scope.names.lookup x = some .local) (hfa : scope.names.lookup a = some .free) (hl : scope.names.lookup ("len" : Str) = some .globalImplicit) (hm : X.mg "len" = none)
    (hdx : (x == ("__debug__" : Str)) = false := by decide) (hda : (a == ("__debug__" : Str)) = false := by decide) (hca : (a == ("__classdict__" : Str)) = false := by decide) :
    ∀ (pins : List (Addr × Obj)) (σ : L2.St) (H : Hp) (s : Shared) (A : Around) (f c' L' : Addr) (h1 : Heap) (y : V) (u : Value) (d : PyData), Inv X pins σ H s → rdNL X.K i σ H y d → RelV y u → Kps s.heap h1 → (h1.Ns L' fun y => [(x, u)].reverse.lookup y) →
      EvK (model X.prog X.w) A (lamEnv X scope L' f c') h1 (.Tuple [.UnaryOp .USub (.Call (.Name "len" p1) [.Subscript (.Name a p2) (.Name x p3) p4] [] p5) p6, .Name x p7] kk p8) fun v h' => Reads h' v d [] := by
  intro pins σ H s A f c' L' h1 y u d I rd r kp hn
  obtain ⟨m, ax, rows, ws, z, e1, e2, rfl, e4, e5, rfl⟩ := rd
  obtain ⟨t, rfl⟩ := r
  obtain ⟨c, ua, hc, ra, hcell⟩ := lam_cell I L hfa hN e1
  cases ra
  obtain ⟨its, rv, pl, hz⟩ := I.list e2
  obtain ⟨wv, ew, rw'⟩ := rv.get e4
  cases rw'
  obtain ⟨its2, rv2, pl2, hz2⟩ := I.list e5
  have lz : z < rows.length := (List.getElem?_eq_some_iff.mp e4).1
  have hs : sizeLine = 16777216 := sizeLine_eq
  have lst : ∀ {b : Addr} {items : Array Value}, s.heap.IsList b items → h1.IsList b items := fun {b items} ⟨o, h2, h3⟩ => ⟨o, kp _ _ h2, h3⟩
  obtain ⟨mb, hb1, hb2⟩ := I.mod.blt
  have vx : ∀ {pos : Pos}, EvK (model X.prog X.w) A (lamEnv X scope L' f c') h1 (.Name x pos) fun v _ => v = Value.int (z : Int) t := fun {pos} => ev_local L.kind hx hn (by
    show ([(x, Value.int (z : Int) t)].reverse).lookup x = _
    simp [List.lookup]) hdx
  have vxi : ∀ {pos : Pos}, EvK (model X.prog X.w) A (lamEnv X scope L' f c') h1 (.Name x pos) fun v _ => ∃ t, v = Value.int (z : Int) t := fun {pos} s2 Q E k q => vx s2 Q E k fun v h' tk k' e => q v h' tk k' ⟨t, e⟩
  have va : ∀ {pos : Pos}, EvK (model X.prog X.w) A (lamEnv X scope L' f c') h1 (.Name a pos) fun v _ => v = Value.ref m := fun {pos} => ev_free L.kind hfa hc (by obtain ⟨o, h2, h3⟩ := hcell; exact ⟨o, kp _ _ h2, h3⟩) hca hda
  have vi : EvK (model X.prog X.w) A (lamEnv X scope L' f c') h1 (.Subscript (.Name a p2) (.Name x p3) p4) fun v _ => v = Value.ref ax := ev_item va vxi (fun _ _ => rfl) (lst pl.isList) (by omega) (by omega) (by rw [Int.toNat_natCast]; simpa using ew)
  have vl := ev_len (P := X.prog) (w := X.w) (A := A) (env := lamEnv X scope L' f c') (pos := p5) (p := p1) (mg := X.mg) (mb := mb) L.kind hl ((I.mod.glob.keeps I.bk).keeps kp) hm ((hb1.keeps I.bk).keeps kp) ((hb2 _ (by decide)).trans (by rfl)) vi (lst pl2.isList) (by simp only [List.size_toArray]; have := rv2.length; omega)
  have e : ((its2.toArray.size : Nat) : Int) = (ws.length : Int) := by rw [List.size_toArray, rv2.length]
  rw [e] at vl
  exact ev_pair (ev_neg vl) vxi
end Ns

/-! Own layer Sd: how many unlike ints a set display has; defs whose code is known. -/
namespace Ns
open PySem PySem.Spec PyProof.Rows L2
/-! ### a def's code -/
theorem kdsCode_of {K : PySem.W.Frag} {cd : Value} {q : Str} (e : PySem.W.codeIn K cd q = true) : PySem.W.kdsCode K cd = true := by
  unfold PySem.W.codeIn at e
  unfold PySem.W.kdsCode
  split at e
  · split at e
    · rename_i h
      have h : K.lookup _ = some _ := h
      dsimp only
      rw [show List.lookup _ K = _ from h]
    · cases e
  · cases e
section
variable {P : Program} {w : World} {K : PySem.W.Frag} {mg : Str → Option Value} {base : Heap}
/-- a def's rule, its code being known -/
theorem At.calC {x : Str} {st : Stmt} {N ps : List Str} {k : Nat} {sp : Sp} (F : At K mg x st) (S : FnScope N ps (defScope st))
    (hb : ∀ (kV doc pm : Value) (an : Option Addr) (cdv ct : Value) (us : List Value), us.length = ps.length → bindArgs (PySem.W.fnOf x x (defArgs st) (defBody st) (defScope st) .none kV doc pm an cdv ct) ⟨us, []⟩ = pure (ps.zip us))
    (len : ∀ vs H Q E, sp vs H Q E → vs.length = ps.length)
    (hbody : ∀ (f : Addr) (cdv : Value) (A : Around) (outer : List Env) (s : Shared) (H : Hp) (vs : List V) (Q : VK) (E : XK), PySem.W.kdsCode K cdv = true → Room k (A.deeper (envOfC x (defScope st) s.heap.objs.size f cdv)) → sp vs H Q E →
      ∃ t, PSs (cxOf (L2.CX P w) P w K mg base N x (defScope st) f cdv A outer s H E) (defBody st) t ∧ t { nx := fun _ H' => Q .non H', rt := Q } (start N vs) H) : Cal P w K mg base (k + 1) x sp := by
  obtain ⟨f, fd, F, hm⟩ := F.ex
  refine ⟨f, fd, ps, ?_, hm, F.kp, F.bindsN hb⟩
  obtain ⟨oc, od, dV, kV, doc, pm, an, cdv, ct, osl, rfl, lk, hcd, _, _⟩ := F.ex
  exact fn_of lk hcd S len fun A outer s H vs Q E hr hsp => hbody f cdv A outer s H vs Q E (kdsCode_of hcd) hr hsp
/-- where a def stands whose code object is at c -/
structure AtL (K : PySem.W.Frag) (mg : Str → Option Value) (x : Str) (st : Stmt) (c : Addr) : Prop where
  ex : ∃ (f : Addr) (fd : FuncData), FnP K x st f fd ∧ mg x = some (.ref f) ∧ fd.code = .ref c
theorem AtL.cal {x : Str} {st : Stmt} {N ps : List Str} {k : Nat} {sp : Sp} {c : Addr} (F : AtL K mg x st c) (S : FnScope N ps (defScope st))
    (hb : ∀ (kV doc pm : Value) (an : Option Addr) (cdv ct : Value) (us : List Value), us.length = ps.length → bindArgs (PySem.W.fnOf x x (defArgs st) (defBody st) (defScope st) .none kV doc pm an cdv ct) ⟨us, []⟩ = pure (ps.zip us))
    (len : ∀ vs H Q E, sp vs H Q E → vs.length = ps.length)
    (hbody : ∀ (f : Addr) (A : Around) (outer : List Env) (s : Shared) (H : Hp) (vs : List V) (Q : VK) (E : XK), Room k (A.deeper (envOfC x (defScope st) s.heap.objs.size f (.ref c))) → sp vs H Q E →
      ∃ t, PSs (cxOf (L2.CX P w) P w K mg base N x (defScope st) f (.ref c) A outer s H E) (defBody st) t ∧ t { nx := fun _ H' => Q .non H', rt := Q } (start N vs) H) : Cal P w K mg base (k + 1) x sp := by
  obtain ⟨f, fd, F, hm, hc⟩ := F.ex
  refine ⟨f, fd, ps, ?_, hm, F.kp, F.bindsN hb⟩
  obtain ⟨oc, od, dV, kV, doc, pm, an, cdv, ct, osl, rfl, lk, hcd, _, _⟩ := F.ex
  have e : cdv = .ref c := hc
  subst e
  exact fn_of lk hcd S len fun A outer s H vs Q E hr hsp => hbody f A outer s H vs Q E hr hsp
end
/-! ### len({a, b, c, d}) -/
section
variable {P : Program} {w : World} {A : Around} {E : Value → Shared → Prop} {D : Addr} {Q : Value → Shared → Prop}
/-- the set at D has the ints es -/
def SetIs (P : Program) (w : World) (h : Heap) (D : Addr) (es : List Int) : Prop := h.SetOf (intKind P w) D (fun k => decide (k ∈ es)) es.length
theorem fill_ints : ∀ (ns es : List Int) (us : List Value) (s : Shared), Vals (ns.map V.int) us → SetIs P w s.heap D es → es.Nodup → es.length + ns.length < scanBound →
    (∀ (h' : Heap) (tk : Nat) (es' : List Int), Heap.SameBut D s.heap h' → SetIs P w h' D es' → es'.Nodup → (∀ k, k ∈ es' ↔ k ∈ es ∨ k ∈ ns) → es'.length ≤ es.length + ns.length → Q (.ref D) { s with heap := h', toks := tk }) → PySem.W.KdsFill (model P w) A E false D Q us s
  | [], es, us, s, r, hS, nd, hl, q => by
    cases r
    exact PySem.W.kds_fill_nil rfl (q s.heap s.toks es (Heap.SameBut.refl _ _) hS nd (fun k => by simp) (by simp))
  | n :: ns, es, us, s, r, hS, nd, hl, q => by
    cases r with
    | cons r1 r2 =>
      obtain ⟨t, rfl⟩ := r1
      refine PySem.W.kds_fill_cons ?_
      unfold setAdd
      refine wpAny_holding (wpAny_bind ((intKind P w).pyHash (intKind_is P w n t) ?_))
      rw [List.length_cons] at hl
      refine wpAny_setAddHashed_of (s := { s with toks := s.toks + 1 }) (intKind_is P w n t) rfl hS (by omega) fun h' sb hS' => ?_
      by_cases c : n ∈ es
      · have hS2 : SetIs P w h' D es := by
          rw [if_pos (by simpa using c)] at hS'
          have e : (fun k' => decide (k' ∈ es) || decide (k' = n)) = fun k => decide (k ∈ es) := funext fun k => by
            by_cases h : k = n
            · subst h; simp [c]
            · simp [h]
          unfold SetIs
          rw [← e]
          exact hS'
        refine fill_ints ns es _ _ r2 hS2 nd (by omega) fun h2 tk es' sb2 hS3 nd3 hm hl3 => q h2 tk es' (sb.trans sb2) hS3 nd3 (fun k => ?_) (by rw [List.length_cons]; omega)
        rw [hm, List.mem_cons]
        constructor
        · rintro (h | h)
          · exact .inl h
          · exact .inr (.inr h)
        · rintro (h | h | h)
          · exact .inl h
          · rw [h]; exact .inl c
          · exact .inr h
      · have hS2 : SetIs P w h' D (n :: es) := by
          rw [if_neg (by simpa using c)] at hS'
          have e : (fun k' => decide (k' ∈ es) || decide (k' = n)) = fun k => decide (k ∈ n :: es) := funext fun k => by
            rw [Bool.eq_iff_iff, Bool.or_eq_true, decide_eq_true_eq, decide_eq_true_eq, decide_eq_true_eq, List.mem_cons]
            exact Or.comm
          unfold SetIs
          rw [← e]
          exact hS'
        refine fill_ints ns (n :: es) _ _ r2 hS2 (List.nodup_cons.mpr ⟨c, nd⟩) (by rw [List.length_cons]; omega) fun h2 tk es' sb2 hS3 nd3 hm hl3 => q h2 tk es' (sb.trans sb2) hS3 nd3 (fun k => ?_) (by rw [List.length_cons] at hl3; rw [List.length_cons]; omega)
        rw [hm, List.mem_cons, List.mem_cons]
        constructor
        · rintro ((h | h) | h)
          · exact .inr (.inl h)
          · exact .inl h
          · exact .inr (.inr h)
        · rintro (h | h | h)
          · exact .inl (.inr h)
          · exact .inl (.inl h)
          · exact .inr h
end
def tLenSet4 (ta tb tc td : TE) : TE := fun σ H Q => ta σ H fun x H1 => tb σ H1 fun y H2 => tc σ H2 fun z H3 => td σ H3 fun u H4 => ∃ a b c d : Int, x = .int a ∧ y = .int b ∧ z = .int c ∧ u = .int d ∧ ∀ es : List Int, es.Nodup → (∀ k, k ∈ es ↔ k ∈ [a, b, c, d]) → Q (.int es.length) H4
theorem pe_lenSet4 {X : Cx} {a b c d : Expr} {ta tb tc td : TE} {kk : Nat} {p p2 pos : Pos} (hg : Gl X "len") (hm : X.mg "len" = none) (hc : PySem.W.kdsCode X.K X.env.code = true) (ha : PE X a ta) (hb : PE X b tb) (hcc : PE X c tc) (hd : PE X d td)
    (hroad : displayRoad kk [a, b, c, d] = .oneByOne) (hp : [a, b, c, d].all PySem.W.kdsPlain = true) (hpl : (backTo pos (starEach [Expr.Set [a, b, c, d] kk p2] X.env)) = [(false, eval (Expr.Set [a, b, c, d] kk p2) X.env)] := by rfl) :
    PE X (.Call (.Name "len" p) [.Set [a, b, c, d] kk p2] [] pos) (tLenSet4 ta tb tc td) := by
  refine ⟨fun pins s σ H Q I h => ?_⟩
  refine wpAny_Call_Name_kw (ld_blt I hg hm (by rfl) ?_ (by decide) (by decide))
  refine PyProof.Rows.callWith_builtin1 ?_ (by rfl) (by rfl)
  rw [hpl]
  refine Calls.spliced_cons ?_
  rw [arm_eval_Set]
  refine wpAny_bind (wpAny_standAt ?_)
  refine wpAny_bind (PySem.W.kds_main I.kIn hc fun bb => ?_)
  rw [PySem.W.kds_star _ hp, List.map_map]
  refine PySem.W.kds_core (ts := (evalEach [a, b, c, d] X.env).map fun t => do let v ← t; standAt p2; pure v) (by rw [hroad]; rfl) (by
    refine List.findIdx?_eq_none_iff.mpr fun x hx => ?_
    obtain ⟨t, _, rfl⟩ := List.mem_map.mp hx
    rfl) (by rw [List.length_map, PySem.W.kds_len]; show 4 ≤ 30; decide) (by rw [List.map_map]; rfl) fun led => ?_
  have hS0 : (s.heap.push { cls := .type "set", dict := none, data := .set #[] 0 (.fresh 0 0 led) }).get? s.heap.objs.size = some { cls := .type "set", dict := none, data := .set #[] 0 (.fresh 0 0 led) } := Heap.get?_push_size _ rfl
  have I0 : Inv X pins σ H { s with heap := s.heap.push { cls := .type "set", dict := none, data := .set #[] 0 (.fresh 0 0 led) } } := I.kept (t' := s.toks) fun b o e => Heap.get?_push_of_some _ e
  have nD : H s.heap.objs.size = none := I.hok.fresh (Nat.le_refl _)
  have I1 : Inv X ((s.heap.objs.size, { cls := .type "set", dict := none, data := .set #[] 0 (.fresh 0 0 led) }) :: pins) σ H { s with heap := s.heap.push { cls := .type "set", dict := none, data := .set #[] 0 (.fresh 0 0 led) } } := I0.pins_of fun q hq => by
    rcases List.mem_cons.mp hq with e | hq
    · subst e
      exact ⟨hS0, nD, Nat.ne_of_gt I.lt, I.nofs (Nat.le_refl _), fun v z => by cases z⟩
    · exact I0.pin q (List.mem_append_right _ hq)
  refine PySem.W.kds_all p2 _ _ _ ?_
  show wpAny _ _ (eval a X.env) _ _ _
  refine thn (ha.run _ _ σ H _ I1 h) fun v1 s1 ⟨x1, H1, J1, r1, q1⟩ => ?_
  show wpAny _ _ (eval b X.env) _ _ _
  refine thn (hb.run _ _ σ H1 _ J1 q1) fun v2 s2 ⟨x2, H2, J2, r2, q2⟩ => ?_
  show wpAny _ _ (eval c X.env) _ _ _
  refine thn (hcc.run _ _ σ H2 _ J2 q2) fun v3 s3 ⟨x3, H3, J3, r3, q3⟩ => ?_
  show wpAny _ _ (eval d X.env) _ _ _
  refine thn (hd.run _ _ σ H3 _ J3 q3) fun v4 s4 ⟨x4, H4, J4, r4, q4⟩ => ?_
  obtain ⟨i1, i2, i3, i4, rfl, rfl, rfl, rfl, q⟩ := q4
  rw [hroad]
  obtain ⟨g1, g2, g3, g4, g5⟩ := J4.pin _ (List.mem_append_right _ (List.mem_cons_self ..))
  have hS4 : SetIs X.prog X.w s4.heap s.heap.objs.size [] := ⟨_, #[], 0, _, g1, ⟨rfl, rfl, rfl⟩, rfl, (fun e he => by simp at he), (fun k => by simp), (by decide), (by rfl), rfl⟩
  refine fill_ints [i1, i2, i3, i4] [] [v1, v2, v3, v4] s4 (.cons r1 (.cons r2 (.cons r3 (.cons r4 .nil)))) hS4 List.nodup_nil (by show 0 + 4 < scanBound; decide) fun h' tk es sb hS nd hme hle => ?_
  have I4 : Inv X pins σ H4 s4 := J4.pins_of fun q hq => J4.pin q (List.mem_append_right _ (List.mem_cons_of_mem _ (by
    have := hq
    exact this)))
  have I5 : Inv X pins σ H4 { s4 with heap := h', toks := tk } := I4.turned (it := s.heap.objs.size) (fun b o hb e => (sb.2 b hb).trans e) g2 g3 (.inr I.sz) (fun y cc e z => by
      have hlt := I.cell y cc e
      obtain ⟨v, o, ho, _⟩ := hlt
      exact absurd (Heap.lt_size ho) (by rw [z]; exact Nat.lt_irrefl _)) (fun q hq z => by
      have := (I.pin q hq).1
      exact absurd (Heap.lt_size this) (by rw [z]; exact Nat.lt_irrefl _))
  refine Calls.spliced_nil ?_
  obtain ⟨o, ee, ep, tt, ho, hex, hdt, _, _, _, hf, hsz⟩ := hS
  refine call_len_set ho hex hdt hf (by rw [hsz]; have : es.length ≤ 4 := hle; omega) ?_
  rw [hsz]
  exact ⟨.int es.length, H4, I5.tok _, ⟨_, rfl⟩, q es nd fun k => by rw [hme]; simp⟩
end Ns

/-! Own layer Hl: heads and ends of laws with lambdas: the tables of the defs that hold them. -/
namespace Ns
open PySem PySem.Spec PyProof.Rows L2 LamX
/-- the code's table of the def x is not among what is known, its code is -/
def lamB (K : PySem.W.Frag) (x : Str) : Bool := match PySem.W.tabIn K x with
  | some (c, P) => PySem.W.codeHdIn K c P && (K.lookup P).isNone
  | none => false
theorem lamB_ok {K : PySem.W.Frag} {x : Str} (h : lamB K x = true) : ∃ c P, PySem.W.tabIn K x = some (c, P) ∧ PySem.W.codeHdIn K c P = true ∧ K.lookup P = none := by
  unfold lamB at h
  split at h
  · rename_i c P e
    obtain ⟨h1, h2⟩ := Bool.and_eq_true_iff.mp h
    exact ⟨c, P, e, h1, Option.isNone_iff_eq_none.mp h2⟩
  · cases h
/-- an empty table -/
def isTabB : Option Obj → Bool
  | some ⟨.none, none, .fields vs, sl⟩ => vs.isEmpty && sl.isEmpty
  | _ => false
theorem isTabB_ok {o : Option Obj} (h : isTabB o = true) : o = some { cls := .none, data := .fields #[] } := by
  unfold isTabB at h
  split at h
  · rename_i vs sl
    obtain ⟨h1, h2⟩ := Bool.and_eq_true_iff.mp h
    have e1 : vs = #[] := Array.isEmpty_iff.mp h1
    have e2 : sl = #[] := Array.isEmpty_iff.mp h2
    rw [e1, e2]
  · cases h
/-- what is known, without the tables of the defs ls -/
def tabAds (K : PySem.W.Frag) (ls : List Str) : List Addr := ls.filterMap fun x => (PySem.W.tabIn K x).map fun z => z.2
def tabCut (K : PySem.W.Frag) (ls : List Str) : PySem.W.Frag := K.filter fun p => !(tabAds K ls).contains p.1
theorem lookup_filter {K : PySem.W.Frag} {f : Addr → Bool} {a : Addr} {o : Obj} (h : (K.filter fun p => f p.1).lookup a = some o) : K.lookup a = some o := by
  induction K with
  | nil => simp at h
  | cons p r ih =>
    obtain ⟨b, u⟩ := p
    rw [List.filter_cons] at h
    by_cases e : a = b
    · subst e
      by_cases c : f a = true
      · rw [if_pos c, List.lookup_cons_self] at h
        rw [List.lookup_cons_self]
        exact h
      · rw [if_neg c] at h
        exfalso
        have : ∀ l : PySem.W.Frag, (l.filter fun p => f p.1).lookup a = none := fun l => by
          induction l with
          | nil => rfl
          | cons q l ih2 =>
            rw [List.filter_cons]
            by_cases c2 : f q.1 = true
            · rw [if_pos c2]
              have ne : (a == q.1) = false := by
                rw [beq_eq_false_iff_ne]
                intro e
                rw [e] at c
                exact c c2
              rw [show (q :: l.filter fun p => f p.1).lookup a = (l.filter fun p => f p.1).lookup a from by obtain ⟨q1, q2⟩ := q; simp only [List.lookup]; rw [ne]]
              exact ih2
            · rw [if_neg c2]
              exact ih2
        rw [this] at h
        cases h
    · have ne : (a == b) = false := beq_eq_false_iff_ne.mpr e
      have e2 : List.lookup a ((b, u) :: r) = List.lookup a r := by simp only [List.lookup]; rw [ne]
      rw [e2]
      by_cases c : f b = true
      · rw [if_pos c] at h
        simp only [List.lookup] at h
        rw [ne] at h
        exact ih h
      · rw [if_neg c] at h
        exact ih h
theorem tabCut_in {K : PySem.W.Frag} {ls : List Str} {h : Heap} (X : K.In h) : (tabCut K ls).In h := fun a o e => X a o (lookup_filter (f := fun b => !(tabAds K ls).contains b) e)
/-- the tables are empty -/
def tabsE (K : PySem.W.Frag) (g : Addr → Option Obj) (ls : List Str) : Bool := ls.all fun x => match PySem.W.tabIn K x with
  | some (_, P) => isTabB (g P)
  | none => false
abbrev AlL : Type := AlX × Bool
def obsXL (fx : List FT) (fn : List He.DefD) (ts : List He.Tab) (ls : List Str) (K : PySem.W.Frag) (g : Addr → Option Obj) : AlL := (obsXT fx fn ts K, tabsE K g ls)
def obsXLG (n : Nat) (fx : List FT) (fn : List He.DefD) (ts : List He.Tab) (ls : List Str) (g : Addr → Option Obj) : AlL := obsXL fx fn ts ls (tabCut (He.frG g (He.asD g n)) ls) g
def SaysL (ls : List Str) (K : PySem.W.Frag) (h : Heap) : Prop := ∀ x ∈ ls, ∀ c P, PySem.W.tabIn K x = some (c, P) → h.get? P = some { cls := .none, data := .fields #[] }
def hookXL (n : Nat) (fx : List FT) (fn : List He.DefD) (ts : List He.Tab) (ls : List Str) : PySem.W.Hook where
  α := AlL
  obs := fun s => obsXLG n fx fn ts ls s.heap.get?
  val := fun w => (valXT fn ts w, true)
  says := fun w h => ∃ K : PySem.W.Frag, K.In h ∧ SaysXT fx fn ts w K ∧ SaysL ls K h
  of := fun w s e => ⟨tabCut (He.frG s.heap.get? (He.asD s.heap.get? n)) ls, tabCut_in He.frG_in, congrArg (fun z : AlL => z.1) e, fun x hx c P ht => by
    have h2 : tabsE (tabCut (He.frG s.heap.get? (He.asD s.heap.get? n)) ls) s.heap.get? ls = true := congrArg (fun z : AlL => z.2) e
    have h3 := List.all_eq_true.mp h2 x hx
    rw [ht] at h3
    exact isTabB_ok h3⟩
  keeps := fun _ _ _ ⟨K, hK, c, t⟩ k => ⟨K, PySem.W.Frag.In.keeps hK k, c, fun x hx cc P e => k _ _ (t x hx cc P e)⟩
theorem obsXLG_eq {n : Nat} {fx : List FT} {fn : List He.DefD} {ts : List He.Tab} {ls : List Str} {g : Addr → Option Obj} {s : Shared} (h : ∀ a, g a = s.heap.get? a) : obsXLG n fx fn ts ls g = (hookXL n fx fn ts ls).obs s := by
  have e : g = s.heap.get? := funext h
  rw [e] <;> rfl
section
variable {K : PySem.W.Frag} {h : Heap} {mg : Str → Option Value} {x : Str} {st : Stmt}
theorem At.lam (A : At K mg x st) (X : K.In h) (G : h.Ns mainGlobals mg) {c P : Addr} (ht : PySem.W.tabIn K x = some (c, P)) : AtL K mg x st c := by
  obtain ⟨f, fd, F, hm⟩ := A.ex
  obtain ⟨oc, od, dV, kV, doc, pm, an, cdv, ct, osl, e, lk, hcd, _, _⟩ := F.ex
  exact ⟨f, fd, F, hm, PySem.W.law_code X G ht hm (X _ _ lk) rfl⟩
end
/-! ### the end -/
section
variable {l : PySem.W.OpenLaw} {n k : Nat} {q : Program} {loose : List Str} {d : DefRec} {x : Str}
variable {XP : (Str → Option Value) → Heap → Prop}
variable {YP : World → Heap → Prop}
/-- the law's object keeps the law at a heap that says YP, the tables cs being empty there -/
def EndAtL (l : PySem.W.OpenLaw) (w : World) (mg : Str → Option Value) (fa : Addr) (n k : Nat) (x : Str) (h : Heap) : Prop :=
  ∃ (K : PySem.W.Frag) (fd : FuncData) (sp : Sp) (cs : List (Addr × Addr)), K.In h ∧ (∀ p ∈ cs, h.get? p.2 = some { cls := .none, data := .fields #[] }) ∧ (∀ p ∈ cs, K.lookup p.2 = none) ∧ (∀ p ∈ cs, PySem.W.CodeHd h p.1 p.2) ∧
    (∀ (s : Shared) (u : Value), BindsTo s fd ⟨[u], []⟩ [(x, u)]) ∧
    (∀ (H : Hp) (a : Addr) (is : List Int), is.length ≤ n → (∀ p ∈ cs, H p.2 = some (.tbl #[])) → SqL K H a (is.map V.int) →
      sp [.ref a] H (fun v _ => v = .bl true) fun _ _ _ => False) ∧
    ∀ base : Heap, K.In base → base.Ns mainGlobals mg → (∀ p ∈ cs, TabB base mg p.1 p.2) → FnOk l.prog w K mg base (L2.CX l.prog w) k fa fd [x] sp
theorem end_walkL (hn : l.most = some n) (small : n ≤ sizeLine) (plain : d.params.defaults = [])
    (room : Room k callerA)
    (F : ∀ w mg fa h, YP w h → h.Ns mainGlobals mg → mg d.name = some (.ref fa) → EndAtL l w mg fa n k x h) :
    PySem.W.WalkO q loose XP YP l.row.toRowW d [] (fun f vs => PySem.call f vs) := by
  refine Att.attach_call hn plain ?_
  intro w s₀ s₁ mg mb fa o pm cd doc a vs is G Y ho hd hcd hmg hobj hints hlen hg
  have z := F w mg fa _ Y G.T.g hmg
  obtain ⟨K, fd, sp, cs, KX, hT, nT, C, hb, hsp, hF⟩ := z
  have le := Nat.le_trans hlen small
  have nothing : ∀ (H : Hp) (e : Value) (s' : Shared), L2.CX l.prog w [] H s₁ (fun _ _ _ => False) e s' → False := by
    intro H e s' c
    obtain ⟨_, _, _, _, _, _, _, _, _, _, _, _, no⟩ := c
    exact no
  exact law_callTs KX G.T.g G.T.b G.T.builtins G.T.nolimit hg hT nT C G.T.bmain hobj hints le room hF hb (fun H hH hS => hsp H a is hlen hH hS) nothing
end
end Ns

/-! Own layer: facts that heads look for: tuples of texts, tables. -/
namespace Ns
open PySem PySem.Spec PyProof.Rows L2 LamX
/-- these are the texts ys -/
def strsB : List Value → List Str → Bool
  | [], [] => true
  | .str x _ :: us, y :: ys => decide (x = y) && strsB us ys
  | _, _ => false
theorem strs_vals : ∀ {us : List Value} {ys : List Str}, strsB us ys = true → Vals (ys.map V.str) us
  | [], [], _ => .nil
  | .str x t :: us, y :: ys, h => by
    obtain ⟨h1, h2⟩ := He.ba h
    refine .cons ?_ (strs_vals h2)
    exact ⟨t, by rw [of_decide_eq_true h1]⟩
/-- the module's name x is a tuple of these texts -/
def strsT (x : Str) (ys : List Str) : FT := fun K => (He.Fa.glo x).ok K && (match K.lookup (He.ga K x) with
  | some o => decide (o.cls = .type "tuple") && (match o.data with
    | .seq its _ => decide (its.size ≤ 1000) && strsB its.toList ys
    | _ => false)
  | none => false)
def kindsL : List Str := ["colours", "forest", "chordal", "split", "threshold", "nested", "cograph", "arrows", "lines", "stretches", "equal", "drawn", "round", "sewn"]
def tabT (x : Str) (kvs : List (Str × He.Dv)) : FT := fun K => (He.Fa.glo x).ok K && He.valsB K (He.ga K x) kvs
theorem strs_ok {K : PySem.W.Frag} {h : Heap} {mg : Str → Option Value} {x : Str} {ys : List Str} (X : K.In h) (G : h.Ns mainGlobals mg) (c : strsT x ys K = true) : mg x = some (.ref (He.ga K x)) ∧ ∀ H, SqT K H (He.ga K x) (ys.map V.str) := by
  obtain ⟨c1, c2⟩ := He.ba c
  refine ⟨He.glo_ok X G c1, fun H => .inr ?_⟩
  cases e : K.lookup (He.ga K x) with
  | none => rw [e] at c2; cases c2
  | some o =>
    rw [e] at c2
    obtain ⟨c3, c4⟩ := He.ba c2
    cases ed : o.data with
    | seq its n =>
      rw [ed] at c4
      obtain ⟨c5, c6⟩ := He.ba c4
      exact ⟨o, its, n, rfl, of_decide_eq_true c3, ed, Nat.le_of_lt (sizeBig (by have := of_decide_eq_true c5; omega)), strs_vals c6⟩
    | _ => rw [ed] at c4; cases c4
end Ns

/-! Own layer H: the end, where a callee's errors are told by a context of the world's. -/
namespace Ns
open PySem PySem.Spec PyProof.Rows L2
section
variable {l : PySem.W.OpenLaw} {n k : Nat} {q : Program} {loose : List Str} {d : DefRec} {x : Str}
variable {XP : (Str → Option Value) → Heap → Prop}
variable {YP : World → Heap → Prop}
/-- the law's object keeps the law at a heap that says YP -/
def EndAt (l : PySem.W.OpenLaw) (w : World) (mg : Str → Option Value) (fa : Addr) (n k : Nat) (x : Str) (h : Heap) : Prop :=
  ∃ (K : PySem.W.Frag) (fd : FuncData) (sp : Sp), K.In h ∧
    (∀ (s : Shared) (u : Value), BindsTo s fd ⟨[u], []⟩ [(x, u)]) ∧
    (∀ (H : Hp) (a : Addr) (is : List Int), is.length ≤ n → SqL K H a (is.map V.int) →
      sp [.ref a] H (fun v _ => v = .bl true) fun _ _ _ => False) ∧
    ∀ base : Heap, K.In base → base.Ns mainGlobals mg → FnOk l.prog w K mg base (L2.CX l.prog w) k fa fd [x] sp
theorem end_walk (hn : l.most = some n) (small : n ≤ sizeLine) (plain : d.params.defaults = [])
    (room : Room k callerA)
    (F : ∀ w mg fa h, YP w h → h.Ns mainGlobals mg → mg d.name = some (.ref fa) → EndAt l w mg fa n k x h) :
    PySem.W.WalkO q loose XP YP l.row.toRowW d [] (fun f vs => PySem.call f vs) := by
  refine Att.attach_call hn plain ?_
  intro w s₀ s₁ mg mb fa o pm cd doc a vs is G Y ho hd hcd hmg hobj hints hlen hg
  have z := F w mg fa _ Y G.T.g hmg
  obtain ⟨K, fd, sp, KX, hb, hsp, hF⟩ := z
  have le := Nat.le_trans hlen small
  have nothing : ∀ (H : Hp) (e : Value) (s' : Shared), L2.CX l.prog w [] H s₁ (fun _ _ _ => False) e s' → False := by
    intro H e s' c
    obtain ⟨_, _, _, _, _, _, _, _, _, _, _, _, no⟩ := c
    exact no
  refine law_call KX G.T.g G.T.b G.T.builtins G.T.nolimit hg hobj hints le room hF hb ?_ nothing
  intro H _ hS
  exact hsp H a is hlen hS
end
end Ns

namespace Ns
open PySem PySem.Spec PyProof.Rows L2 LamX
def top (i : Nat) : Stmt := PySem.Challenge.pw_netstory_k20_trees_as_they_were_built.main.body.getD i (.Pass ⟨0, 0, 0, 0⟩) 
abbrev s_law_box : Stmt := top 98 
abbrev s_law_take : Stmt := top 99 
abbrev s_law_pick : Stmt := top 100 
abbrev s_law_pairs : Stmt := top 101 
abbrev s_law_made : Stmt := top 102 
abbrev s_law_row : Stmt := top 103 
abbrev s_is_number : Stmt := top 7 
abbrev s_is_pair : Stmt := top 8 
abbrev s_is_net : Stmt := top 9 
abbrev s_check_net : Stmt := top 10 
abbrev s_law_says : Stmt := top 106 
abbrev s_law_prime : Stmt := top 107 
abbrev s_law_are_tied : Stmt := top 109 
abbrev s_law_goes : Stmt := top 112 
abbrev s_matrix : Stmt := top 13 
abbrev s_pieces_by : Stmt := top 18 
abbrev s_alike_with : Stmt := top 29 
abbrev s_greatest_alike : Stmt := top 30 
abbrev s_utree : Stmt := top 31 
abbrev s_tree : Stmt := top 32 
abbrev s_points_of : Stmt := top 33 
abbrev s_sets : Stmt := top 34 
abbrev s_strong_sets : Stmt := top 35 
abbrev s_law_tree_points : Stmt := top 104 
abbrev s_law_tree_sets : Stmt := top 105 
abbrev s_law_due : Stmt := top 111 
abbrev s_law_spread : Stmt := top 110 
abbrev s_law_drawn_tree : Stmt := top 108 
abbrev s_in_a_row : Stmt := top 25 
abbrev s_cograph : Stmt := top 26 
abbrev s_cograph_of : Stmt := top 27 
abbrev s_neighbours_nets : Stmt := top 14 
abbrev s_is_point : Stmt := top 11 
abbrev s_check_points : Stmt := top 12 
abbrev s_check_kind : Stmt := top 94 
abbrev s_tell : Stmt := top 95 
abbrev s_neighbours_arrows : Stmt := top 37 
abbrev s_forced : Stmt := top 39 
abbrev s_forced_from : Stmt := top 40 
abbrev s_chain : Stmt := top 41 
abbrev s_turned_round : Stmt := top 42 
abbrev s_arrows_of : Stmt := top 43 
abbrev s_opposite : Stmt := top 16 
abbrev s_by_arrows : Stmt := top 44 
abbrev s_lines_of : Stmt := top 45 
abbrev s_is_of : Stmt := top 96 
abbrev s_law : Stmt := top 113 
end Ns

/-! Own layer: the head and the end of k20. -/
namespace Ns
open PySem PySem.Spec PyProof.Rows L2 LamX
def rawT_KINDS : FT := strsT "KINDS" kindsL
def rawT_TELLERS : FT := tabT "TELLERS" [("cograph", .glo "cograph_of"), ("arrows", .glo "arrows_of"), ("lines", .glo "lines_of")]
abbrev R : PySem.W.OpenRow := PySem.W.OpenLaw.row PySem.Challenge.rw_netstory_k20_trees_as_they_were_built
def loose0 : List PySem.Str := ["NetstoryError", "BadNet", "BadKind", "BadPoint", "MOST", "is_number", "is_pair", "is_net", "check_net", "is_point", "check_points", "matrix", "neighbours", "neighbours_nets", "opposite", "pieces_by", "_threshold_end", "_crossed", "threshold_of", "top_of", "_bent", "nested_of", "_in_a_row", "_cograph", "cograph_of", "_alike_with", "_greatest_alike", "_tree", "tree", "points_of"]
def loose1 : List PySem.Str := ["_sets", "strong_sets", "neighbours_arrows", "forced", "forced_from", "_chain", "_turned_round", "arrows_of", "_by_arrows", "lines_of", "drawn_of", "round_of", "sewn_of", "with_top", "taken_away", "thinned", "blocks", "taken_off", "drawing", "block_drawing", "mark", "first_circle", "fragments", "through", "parted", "ends_and_ways", "great_place", "small_place", "reached", "traced"]
def loose2 : List PySem.Str := ["pieces", "pieces_of", "way_off", "ring", "long_ring", "halves", "closed", "_pieces_off", "_three", "stretches_of", "_claw", "_sweep", "_places", "equal_of", "colours_of", "forest_of", "next_clean", "chordal_of", "is_split", "apart_ties", "split_of", "KINDS", "TELLERS", "check_kind", "tell", "is_of", "_law_box", "_law_take", "_law_pick", "_law_pairs"]
def loose3 : List PySem.Str := ["_law_made", "_law_row", "_law_tree_points", "_law_tree_sets", "_law_says", "_law_prime", "_law_drawn_tree", "_law_are_tied", "_law_spread", "_law_due", "_law_goes"]
abbrev loose : List PySem.Str := loose0 ++ loose1 ++ loose2 ++ loose3
def d_is_number : He.DefD := ⟨("is_number", none), "is_number", "is_number", defArgs s_is_number, defBody s_is_number, defScope s_is_number, [], []⟩
def d_is_pair : He.DefD := ⟨("is_pair", none), "is_pair", "is_pair", defArgs s_is_pair, defBody s_is_pair, defScope s_is_pair, [], []⟩
def d_is_net : He.DefD := ⟨("is_net", none), "is_net", "is_net", defArgs s_is_net, defBody s_is_net, defScope s_is_net, [], []⟩
def d_check_net : He.DefD := ⟨("check_net", none), "check_net", "check_net", defArgs s_check_net, defBody s_check_net, defScope s_check_net, [], []⟩
def d_matrix : He.DefD := ⟨("matrix", none), "matrix", "matrix", defArgs s_matrix, defBody s_matrix, defScope s_matrix, [], []⟩
def d_opposite : He.DefD := ⟨("opposite", none), "opposite", "opposite", defArgs s_opposite, defBody s_opposite, defScope s_opposite, [], []⟩
def d_pieces_by : He.DefD := ⟨("pieces_by", none), "pieces_by", "pieces_by", defArgs s_pieces_by, defBody s_pieces_by, defScope s_pieces_by, [], []⟩
def d_in_a_row : He.DefD := ⟨("_in_a_row", none), "_in_a_row", "_in_a_row", defArgs s_in_a_row, defBody s_in_a_row, defScope s_in_a_row, [], []⟩
def d_cograph : He.DefD := ⟨("_cograph", none), "_cograph", "_cograph", defArgs s_cograph, defBody s_cograph, defScope s_cograph, [], []⟩
def d_cograph_of : He.DefD := ⟨("cograph_of", none), "cograph_of", "cograph_of", defArgs s_cograph_of, defBody s_cograph_of, defScope s_cograph_of, [], []⟩
def d_alike_with : He.DefD := ⟨("_alike_with", none), "_alike_with", "_alike_with", defArgs s_alike_with, defBody s_alike_with, defScope s_alike_with, [], []⟩
def d_greatest_alike : He.DefD := ⟨("_greatest_alike", none), "_greatest_alike", "_greatest_alike", defArgs s_greatest_alike, defBody s_greatest_alike, defScope s_greatest_alike, [], []⟩
def d_utree : He.DefD := ⟨("_tree", none), "_tree", "_tree", defArgs s_utree, defBody s_utree, defScope s_utree, [], []⟩
def d_tree : He.DefD := ⟨("tree", none), "tree", "tree", defArgs s_tree, defBody s_tree, defScope s_tree, [], []⟩
def d_points_of : He.DefD := ⟨("points_of", none), "points_of", "points_of", defArgs s_points_of, defBody s_points_of, defScope s_points_of, [], []⟩
def d_sets : He.DefD := ⟨("_sets", none), "_sets", "_sets", defArgs s_sets, defBody s_sets, defScope s_sets, [], []⟩
def d_strong_sets : He.DefD := ⟨("strong_sets", none), "strong_sets", "strong_sets", defArgs s_strong_sets, defBody s_strong_sets, defScope s_strong_sets, [], []⟩
def d_forced : He.DefD := ⟨("forced", none), "forced", "forced", defArgs s_forced, defBody s_forced, defScope s_forced, [], []⟩
def d_forced_from : He.DefD := ⟨("forced_from", none), "forced_from", "forced_from", defArgs s_forced_from, defBody s_forced_from, defScope s_forced_from, [], []⟩
def d_chain : He.DefD := ⟨("_chain", none), "_chain", "_chain", defArgs s_chain, defBody s_chain, defScope s_chain, [], []⟩
def d_turned_round : He.DefD := ⟨("_turned_round", none), "_turned_round", "_turned_round", defArgs s_turned_round, defBody s_turned_round, defScope s_turned_round, [], []⟩
def d_arrows_of : He.DefD := ⟨("arrows_of", none), "arrows_of", "arrows_of", defArgs s_arrows_of, defBody s_arrows_of, defScope s_arrows_of, [], []⟩
def d_by_arrows : He.DefD := ⟨("_by_arrows", none), "_by_arrows", "_by_arrows", defArgs s_by_arrows, defBody s_by_arrows, defScope s_by_arrows, [], []⟩
def d_lines_of : He.DefD := ⟨("lines_of", none), "lines_of", "lines_of", defArgs s_lines_of, defBody s_lines_of, defScope s_lines_of, [], []⟩
def d_check_kind : He.DefD := ⟨("check_kind", none), "check_kind", "check_kind", defArgs s_check_kind, defBody s_check_kind, defScope s_check_kind, [.glo "KINDS"], []⟩
def d_tell : He.DefD := ⟨("tell", none), "tell", "tell", defArgs s_tell, defBody s_tell, defScope s_tell, [], []⟩
def d_is_of : He.DefD := ⟨("is_of", none), "is_of", "is_of", defArgs s_is_of, defBody s_is_of, defScope s_is_of, [], []⟩
def d_law_box : He.DefD := ⟨("_law_box", none), "_law_box", "_law_box", defArgs s_law_box, defBody s_law_box, defScope s_law_box, [], []⟩
def d_law_take : He.DefD := ⟨("_law_take", none), "_law_take", "_law_take", defArgs s_law_take, defBody s_law_take, defScope s_law_take, [], []⟩
def d_law_pick : He.DefD := ⟨("_law_pick", none), "_law_pick", "_law_pick", defArgs s_law_pick, defBody s_law_pick, defScope s_law_pick, [], []⟩
def d_law_pairs : He.DefD := ⟨("_law_pairs", none), "_law_pairs", "_law_pairs", defArgs s_law_pairs, defBody s_law_pairs, defScope s_law_pairs, [], []⟩
def d_law_made : He.DefD := ⟨("_law_made", none), "_law_made", "_law_made", defArgs s_law_made, defBody s_law_made, defScope s_law_made, [], []⟩
def d_law_row : He.DefD := ⟨("_law_row", none), "_law_row", "_law_row", defArgs s_law_row, defBody s_law_row, defScope s_law_row, [], []⟩
def d_law_tree_points : He.DefD := ⟨("_law_tree_points", none), "_law_tree_points", "_law_tree_points", defArgs s_law_tree_points, defBody s_law_tree_points, defScope s_law_tree_points, [], []⟩
def d_law_tree_sets : He.DefD := ⟨("_law_tree_sets", none), "_law_tree_sets", "_law_tree_sets", defArgs s_law_tree_sets, defBody s_law_tree_sets, defScope s_law_tree_sets, [], []⟩
def d_law_says : He.DefD := ⟨("_law_says", none), "_law_says", "_law_says", defArgs s_law_says, defBody s_law_says, defScope s_law_says, [], []⟩
def d_law_prime : He.DefD := ⟨("_law_prime", none), "_law_prime", "_law_prime", defArgs s_law_prime, defBody s_law_prime, defScope s_law_prime, [], []⟩
def d_law_drawn_tree : He.DefD := ⟨("_law_drawn_tree", none), "_law_drawn_tree", "_law_drawn_tree", defArgs s_law_drawn_tree, defBody s_law_drawn_tree, defScope s_law_drawn_tree, [], []⟩
def d_law_are_tied : He.DefD := ⟨("_law_are_tied", none), "_law_are_tied", "_law_are_tied", defArgs s_law_are_tied, defBody s_law_are_tied, defScope s_law_are_tied, [], []⟩
def d_law_spread : He.DefD := ⟨("_law_spread", none), "_law_spread", "_law_spread", defArgs s_law_spread, defBody s_law_spread, defScope s_law_spread, [], []⟩
def d_law_due : He.DefD := ⟨("_law_due", none), "_law_due", "_law_due", defArgs s_law_due, defBody s_law_due, defScope s_law_due, [], []⟩
def d_law_goes : He.DefD := ⟨("_law_goes", none), "_law_goes", "_law_goes", defArgs s_law_goes, defBody s_law_goes, defScope s_law_goes, [], []⟩
def d_neighbours_arrows : He.DefD := ⟨("neighbours_arrows", none), "neighbours", "neighbours", defArgs s_neighbours_arrows, defBody s_neighbours_arrows, defScope s_neighbours_arrows, [], []⟩
def d_law : He.DefD := ⟨("law", none), "law", "law", defArgs s_law, defBody s_law, defScope s_law, [], []⟩
def fn : List He.DefD := [d_is_number, d_is_pair, d_is_net, d_check_net, d_matrix, d_opposite, d_pieces_by, d_in_a_row, d_cograph, d_cograph_of, d_alike_with, d_greatest_alike, d_utree, d_tree, d_points_of, d_sets, d_strong_sets, d_forced, d_forced_from, d_chain, d_turned_round, d_arrows_of, d_by_arrows, d_lines_of, d_check_kind, d_tell, d_is_of, d_law_box, d_law_take, d_law_pick, d_law_pairs, d_law_made, d_law_row, d_law_tree_points, d_law_tree_sets, d_law_says, d_law_prime, d_law_drawn_tree, d_law_are_tied, d_law_spread, d_law_due, d_law_goes, d_neighbours_arrows, d_law]
def fx : List FT := [biT, excT "BadNet", excT "BadKind", excT "BadPoint", fun K => (He.Fa.int "MOST" 40).ok K, rawT_KINDS, rawT_TELLERS, fun K => (He.Fa.glo "is_number").ok K, fun K => (He.Fa.glo "is_pair").ok K, fun K => (He.Fa.glo "is_net").ok K, fun K => (He.Fa.glo "check_net").ok K, fun K => (He.Fa.glo "matrix").ok K, fun K => (He.Fa.glo "opposite").ok K, fun K => (He.Fa.glo "pieces_by").ok K, fun K => (He.Fa.glo "_in_a_row").ok K, fun K => (He.Fa.glo "_cograph").ok K, fun K => (He.Fa.glo "cograph_of").ok K, fun K => (He.Fa.glo "_alike_with").ok K, fun K => (He.Fa.glo "_greatest_alike").ok K, fun K => (He.Fa.glo "_tree").ok K, fun K => (He.Fa.glo "tree").ok K, fun K => (He.Fa.glo "points_of").ok K, fun K => (He.Fa.glo "_sets").ok K, fun K => (He.Fa.glo "strong_sets").ok K, fun K => (He.Fa.glo "forced").ok K, fun K => (He.Fa.glo "forced_from").ok K, fun K => (He.Fa.glo "_chain").ok K, fun K => (He.Fa.glo "_turned_round").ok K, fun K => (He.Fa.glo "arrows_of").ok K, fun K => (He.Fa.glo "_by_arrows").ok K, fun K => (He.Fa.glo "lines_of").ok K, fun K => (He.Fa.glo "check_kind").ok K, fun K => (He.Fa.glo "tell").ok K, fun K => (He.Fa.glo "is_of").ok K, fun K => (He.Fa.glo "_law_box").ok K, fun K => (He.Fa.glo "_law_take").ok K, fun K => (He.Fa.glo "_law_pick").ok K, fun K => (He.Fa.glo "_law_pairs").ok K, fun K => (He.Fa.glo "_law_made").ok K, fun K => (He.Fa.glo "_law_row").ok K, fun K => (He.Fa.glo "_law_tree_points").ok K, fun K => (He.Fa.glo "_law_tree_sets").ok K, fun K => (He.Fa.glo "_law_says").ok K, fun K => (He.Fa.glo "_law_prime").ok K, fun K => (He.Fa.glo "_law_drawn_tree").ok K, fun K => (He.Fa.glo "_law_are_tied").ok K, fun K => (He.Fa.glo "_law_spread").ok K, fun K => (He.Fa.glo "_law_due").ok K, fun K => (He.Fa.glo "_law_goes").ok K, fun K => (He.Fa.glo "neighbours_arrows").ok K, fun K => (He.Fa.glo "law").ok K]
def ts : List He.Tab := [(fun K => He.ga K "TELLERS", ["colours", "forest", "chordal", "split", "threshold", "nested", "cograph", "arrows", "lines", "stretches", "equal", "drawn", "round", "sewn"])]
abbrev hk : PySem.W.Hook := hookXT 2 fx fn ts
def ob (s : PySem.W.SharedT) : AlX := obsXTG 2 fx fn ts (HandSHeadRun.getT s)
theorem ob_eq (s : PySem.W.SharedT) : ob s = hk.obs s.abs := obsXTG_eq (HandSHeadRun.getT_eq s)
theorem map_two {α β γ δ : Type} {o : Option α} {f : α → β × γ} {g : α → δ} {a : β} {b : γ} {c : δ} (h1 : o.map f = some (a, b)) (h2 : o.map g = some c) : o.map (fun s => ((f s).1, (f s).2, g s)) = some (a, b, c) := by
  cases o with
  | none => cases h1
  | some x =>
    have h1 : f x = (a, b) := Option.some.inj h1
    have h2 : g x = c := Option.some.inj h2
    show some ((f x).1, (f x).2, g x) = _
    rw [h1, h2]
open HandSHeadRun PySem.W in
theorem head_a_false (w : World) : ∀ os : OsState, (endF (stepQ (denQ tabQ) R.prog (w.withFollow "special-get-raises" false)) 20000 R.prog (w.withFollow "special-get-raises" false) os).map (fun s => (looksF R.prog (boot_heap (w.withFollow "special-get-raises" false).params) s.abs, seenQ (PySem.W.view R.prog [113]) loose (importedModules R.prog.main.body) (fun s => xlAt (PySem.W.view R.prog [113]) [] s && recOk R.toRowW.records s) s.abs)) = some (true, openGood (PySem.W.view R.prog [113]) loose) := by
  intro os
  kernel_rfl
open HandSHeadRun PySem.W in
theorem head_o_false (w : World) : ∀ os : OsState, (endF (stepQ (denQ tabQ) R.prog (w.withFollow "special-get-raises" false)) 20000 R.prog (w.withFollow "special-get-raises" false) os).map ob = some (hk.val (w.withFollow "special-get-raises" false)) := by
  intro os
  kernel_rfl
theorem head_run_false (w : World) : HandSHeadRun.RunEq R (PySem.W.view R.prog [113]) hk ob 20000 loose (w.withFollow "special-get-raises" false) := fun os => map_two (head_a_false w os) (head_o_false w os)
open HandSHeadRun PySem.W in
theorem head_a_true (w : World) : ∀ os : OsState, (endF (stepQ (denQ tabQ) R.prog (w.withFollow "special-get-raises" true)) 20000 R.prog (w.withFollow "special-get-raises" true) os).map (fun s => (looksF R.prog (boot_heap (w.withFollow "special-get-raises" true).params) s.abs, seenQ (PySem.W.view R.prog [113]) loose (importedModules R.prog.main.body) (fun s => xlAt (PySem.W.view R.prog [113]) [] s && recOk R.toRowW.records s) s.abs)) = some (true, openGood (PySem.W.view R.prog [113]) loose) := by
  intro os
  kernel_rfl
open HandSHeadRun PySem.W in
theorem head_o_true (w : World) : ∀ os : OsState, (endF (stepQ (denQ tabQ) R.prog (w.withFollow "special-get-raises" true)) 20000 R.prog (w.withFollow "special-get-raises" true) os).map ob = some (hk.val (w.withFollow "special-get-raises" true)) := by
  intro os
  kernel_rfl
theorem head_run_true (w : World) : HandSHeadRun.RunEq R (PySem.W.view R.prog [113]) hk ob 20000 loose (w.withFollow "special-get-raises" true) := fun os => map_two (head_a_true w os) (head_o_true w os)
theorem head_run2 (b : Bool) (w : World) : HandSHeadRun.RunEq R (PySem.W.view R.prog [113]) hk ob 20000 loose (w.withFollow "special-get-raises" b) := match b with
  | false => head_run_false w
  | true => head_run_true w
theorem head_run (w : World) : HandSHeadRun.RunEq R (PySem.W.view R.prog [113]) hk ob 20000 loose w := by
  have := head_run2 (w.params.followText "special-get-raises") w
  rwa [World.withFollow_self] at this
end Ns

/-! Own layer M: lists of lists: made by comprehensions, tables of truth values, stores into them. -/
namespace Ns
open PySem PySem.Spec PyProof.Rows L2
theorem fm_if {α β : Type} (p : α → Bool) (g : α → β) : ∀ l : List α, (l.filterMap fun x => if p x = true then some (g x) else none) = (l.filter p).map g
  | [] => rfl
  | x :: l => by
    rw [List.filterMap_cons, List.filter_cons]
    by_cases h : p x = true
    · rw [if_pos h, if_pos h, fm_if p g l]
      rfl
    · rw [if_neg h, if_neg h, fm_if p g l]
theorem fm_id {α : Type} (p : α → Bool) (l : List α) : (l.filterMap fun x => if p x = true then some x else none) = l.filter p := by
  rw [fm_if p (fun x => x), List.map_id']
theorem gone {H H' : Hp} {p : Addr} (s : Same H H') (h : H' p = none) : H p = none := by
  cases q : H p with
  | none => rfl
  | some o =>
    have e := (s _ _ q).symm.trans h
    cases e
/-- pairs of points that names hold -/
def pairsT : List (Nat × Nat) → TA
  | [] => tNil
  | i :: r => tCons (tTup (tCons (tVar i.1) (tCons (tVar i.2) tNil))) (pairsT r)
theorem rdPairs {σ : L2.St} : ∀ {ix vals : List (Nat × Nat)} {H : Hp} {Q : List V → Hp → Prop}, Paired (fun (i p : Nat × Nat) => σ[i.1]? = some (some (pI p.1)) ∧ σ[i.2]? = some (some (pI p.2))) ix vals →
    (∀ us H', Same H H' → Paired (Pr H') us vals → Q us H') → pairsT ix σ H Q
  | _, _, H, Q, .nil, q => q [] H (Same.refl H) .nil
  | _, _, H, Q, .cons ⟨h1, h2⟩ r, q => by
    refine ⟨_, h1, _, h2, by show 2 ≤ sizeLine; decide, fun t ht => rdPairs r fun us H' s pr => ?_⟩
    exact q _ H' ((same_laid ht).trans s) (.cons ⟨t, rfl, s _ _ upd_same⟩ pr)
theorem lstP {σ : L2.St} {ix vals : List (Nat × Nat)} {H : Hp} {Q : VK} (hz : vals.length ≤ 1000) (h : Paired (fun (i p : Nat × Nat) => σ[i.1]? = some (some (pI p.1)) ∧ σ[i.2]? = some (some (pI p.2))) ix vals)
    (q : ∀ (p : Addr) (us : List V) (H' : Hp), Same H H' → H p = none → H' p = some (.lst us) → Paired (Pr H') us vals → Q (.ref p) H') : tLst (pairsT ix) σ H Q := by
  refine rdPairs h fun us H' s pr => ⟨?_, fun p hp => ?_⟩
  · rw [pr.length]
    exact Nat.le_of_lt (sizeBig (by omega))
  · exact q p us _ (sNew s hp) (gone s hp) upd_same (pMono persPr (sKt (same_laid hp)) pr)
theorem cutV_take {xs : List V} {k : Nat} : cutV xs none (some (k : Int)) = xs.take k := by
  unfold cutV
  show ((xs.drop 0).take (HT.sIx xs.length xs.length (some (k : Int)) - 0)) = _
  rw [HT.sIx_nat, List.drop_zero, Nat.sub_zero]
  by_cases h : k ≤ xs.length
  · rw [Nat.min_eq_left h]
  · rw [Nat.min_eq_right (by omega), List.take_of_length_le (Nat.le_refl _), List.take_of_length_le (by omega)]
theorem catP {α : Type} {R : Hp → V → α → Prop} (hR : PersT R) {K : PySem.W.Frag} {H : Hp} {Q : VK} {x y : V} {as bs : List α} (hx : Tup R H x as) (hy : Tup R H y bs) (hz : as.length + bs.length ≤ 1000) (hne : bs ≠ [])
    (q : ∀ v H', Same H H' → Tup R H' v (as ++ bs) → Q v H') : rCatA K x y H Q := by
  obtain ⟨a, xs, rfl, ha, pa⟩ := hx
  obtain ⟨b, ys, rfl, hb, pb⟩ := hy
  have l1 := pa.length
  have l2 := pb.length
  refine ⟨a, b, xs, ys, rfl, rfl, SqT.of ha, SqT.of hb, Nat.le_of_lt (sizeBig (by omega)), fun e => ?_, fun _ e => ?_, fun _ _ p hp => ?_⟩
  · subst e
    cases pa
    exact q _ H (Same.refl H) ⟨b, ys, rfl, hb, pb⟩
  · subst e
    cases pb
    exact absurd rfl hne
  · exact q _ _ (same_laid hp) ⟨p, _, rfl, upd_same, pMono hR (sKt (same_laid hp)) (pApp pa pb)⟩
/-- lists with these contents, each by itself, all new since H1, none of them D -/
def Rws (H1 H : Hp) (D : Addr) (rows : List Addr) (cs : List (List V)) : Prop := rows.Nodup ∧ Paired (fun a c => H a = some (.lst c) ∧ a ≠ D ∧ H1 a = none) rows cs
theorem Rws.put {H1 H H4 : Hp} {D a : Addr} {rows : List Addr} {cs : List (List V)} {c : List V} {o : HO} (x : Rws H1 H D rows cs) (sm : Same H H4) (n1 : H1 a = none) (nD : a ≠ D) (n : H a = none) (e : H4 a = some (.lst c)) : Rws H1 (upd H4 D o) D (rows ++ [a]) (cs ++ [c]) := by
  obtain ⟨nd, pr⟩ := x
  have hn : a ∉ rows := fun h => by
    obtain ⟨c', _, h1, _⟩ := pMemL pr h
    rw [n] at h1
    cases h1
  refine ⟨?_, pApp ?_ (.cons ⟨by rw [upd_ne nD]; exact e, nD, n1⟩ .nil)⟩
  · rw [List.nodup_append]
    refine ⟨nd, by simp, fun u hu v hv e => hn ?_⟩
    rw [List.mem_singleton] at hv
    rw [← hv, ← e]
    exact hu
  · clear hn nd
    induction pr with
    | nil => exact .nil
    | cons h t ih => exact .cons ⟨by rw [upd_ne h.2.1]; exact sm _ _ h.1, h.2⟩ ih
section
variable {g : TG} {tt : TT} {te : TE} {vs : List Nat} {σ : L2.St} {H1 : Hp} {D : Addr} {Qd : Hp → Prop}
/-- [new list for i in range] -/
theorem comp_rows {lo : Int} {n : Nat} (hn : n < sizeLine) (c : Nat → List V) (hD : H1 D = none)
    (hs : ∀ (i : Nat) (H : Hp) (Yes : V → Hp → Prop) (No : Hp → Prop), i < n → Same H1 H → (∀ a H4, Same H H4 → H a = none → H4 a = some (.lst (c i)) → Yes (.ref a) H4) →
      g (.int (lo + i)) (wipe σ vs) H fun σ2 H2 => wipe σ2 vs = wipe σ vs ∧ tt σ2 H2 fun b H3 => if b = true then te σ2 H3 Yes else No H3)
    (hd : ∀ H rows, Same H1 H → H D = some (.lst (rows.map V.ref)) → Rws H1 H D rows ((List.range n).map c) → Qd H) :
    ∃ W : Nat → Nat → Hp → Prop, (∃ m, W 0 m (upd H1 D (.lst []))) ∧ ∀ i m H, W i m H →
      ((Itr lo n).stop i H ∧ Qd H) ∨ ((Itr lo n).go i H ∧ ∃ Nx : Hp → Prop, (∀ H', Nx H' → ∃ m', m' < m ∧ W (i + 1) m' H') ∧ ∀ x H', (Itr lo n).yld i H x H' → g x (wipe σ vs) H' fun σ2 H2 => wipe σ2 vs = wipe σ vs ∧ tt σ2 H2 fun b H3 =>
        if b = true then te σ2 H3 fun y H4 => ∃ acc, H4 D = some (.lst acc) ∧ acc.length < sizeLine ∧ Nx (upd H4 D (.lst (acc ++ [y]))) else Nx H3) := by
  refine lc_range (lo := lo) (n := n) (fun i H => Same H1 H ∧ ∃ rows, H D = some (.lst (rows.map V.ref)) ∧ Rws H1 H D rows ((List.range i).map c) ∧ rows.length = i) ⟨same_laid hD, [], upd_same, ⟨.nil, .nil⟩, rfl⟩ ?_ ?_
  · rintro i H hi ⟨sm, rows, hy, rw, hl⟩
    refine hs i H _ _ hi sm fun a H4 s4 na ea => ?_
    have nD : a ≠ D := fun e => by rw [e, hy] at na; cases na
    have n1 : H1 a = none := by
      cases q : H1 a with
      | none => rfl
      | some o => rw [sm _ _ q] at na; cases na
    refine ⟨rows.map V.ref, s4 _ _ hy, by rw [List.length_map]; omega, sPut (sm.trans s4) hD, rows ++ [a], ?_, ?_, by rw [List.length_append, hl]; rfl⟩
    · rw [upd_same, List.map_append]
      rfl
    · rw [List.range_succ, List.map_append]
      exact rw.put s4 n1 nD na ea
  · rintro H ⟨sm, rows, hy, rw, hl⟩
    exact hd H rows sm hy rw
/-- [new list for one in list] -/
theorem comp_rowsL {α : Type} {K : PySem.W.Frag} {a : Addr} {us : List V} {ds : List α} (c : α → List V) (R : Hp → V → α → Prop) (hD : H1 D = none)
    (hl : H1 a = some (.lst us)) (hn : us.length < sizeLine) (hp : ∀ H, Same H1 H → Paired (R H) us ds)
    (hs : ∀ (d : α) (x : V) (H : Hp) (Yes : V → Hp → Prop) (No : Hp → Prop), d ∈ ds → R H x d → Same H1 H → (∀ a H4, Same H H4 → H a = none → H4 a = some (.lst (c d)) → Yes (.ref a) H4) →
      g x (wipe σ vs) H fun σ2 H2 => wipe σ2 vs = wipe σ vs ∧ tt σ2 H2 fun b H3 => if b = true then te σ2 H3 Yes else No H3)
    (hd : ∀ H rows, Same H1 H → H D = some (.lst (rows.map V.ref)) → Rws H1 H D rows (ds.map c) → Qd H) :
    ∃ W : Nat → Nat → Hp → Prop, (∃ m, W 0 m (upd H1 D (.lst []))) ∧ ∀ i m H, W i m H →
      ((Itl K a).stop i H ∧ Qd H) ∨ ((Itl K a).go i H ∧ ∃ Nx : Hp → Prop, (∀ H', Nx H' → ∃ m', m' < m ∧ W (i + 1) m' H') ∧ ∀ x H', (Itl K a).yld i H x H' → g x (wipe σ vs) H' fun σ2 H2 => wipe σ2 vs = wipe σ vs ∧ tt σ2 H2 fun b H3 =>
        if b = true then te σ2 H3 fun y H4 => ∃ acc, H4 D = some (.lst acc) ∧ acc.length < sizeLine ∧ Nx (upd H4 D (.lst (acc ++ [y]))) else Nx H3) := by
  have hlen := (hp H1 (Same.refl H1)).length
  refine lc_list (K := K) (a := a) (xs := us) (fun i H => Same H1 H ∧ ∃ rows, H D = some (.lst (rows.map V.ref)) ∧ Rws H1 H D rows ((ds.take i).map c) ∧ rows.length = i) ⟨same_laid hD, [], upd_same, ⟨.nil, .nil⟩, rfl⟩ (fun i H _ p => SqL.of (p.1 _ _ hl)) ?_ ?_
  · rintro i x H hi ⟨sm, rows, hy, rw, hll⟩
    obtain ⟨d, hat, hrs⟩ := pAtL (hp H sm) hi
    have hi2 := (List.getElem?_eq_some_iff.mp hi).1
    refine hs d x H _ _ (List.mem_of_getElem? hat) hrs sm fun a H4 s4 na ea => ?_
    have nD : a ≠ D := fun e => by rw [e, hy] at na; cases na
    have n1 : H1 a = none := by
      cases q : H1 a with
      | none => rfl
      | some o => rw [sm _ _ q] at na; cases na
    refine ⟨rows.map V.ref, s4 _ _ hy, by rw [List.length_map]; omega, sPut (sm.trans s4) hD, rows ++ [a], ?_, ?_, by rw [List.length_append, hll]; rfl⟩
    · rw [upd_same, List.map_append]
      rfl
    · rw [List.take_add_one, hat, List.map_append]
      exact rw.put s4 n1 nD na ea
  · rintro H ⟨sm, rows, hy, rw, hll⟩
    rw [hlen, List.take_of_length_le (Nat.le_refl _)] at rw
    exact hd H rows sm hy rw
end
/-! ### tables of truth values -/
abbrev Tm := Nat → Nat → Bool
def rowV (n : Nat) (f : Nat → Bool) : List V := (List.range n).map fun j => V.bl (f j)
theorem rowV_len (n : Nat) (f : Nat → Bool) : (rowV n f).length = n := by simp [rowV]
theorem rowV_at {n : Nat} {f : Nat → Bool} {j : Nat} (h : j < n) : (rowV n f)[j]? = some (.bl (f j)) := by simp [rowV, h]
theorem rowV_set {n : Nat} {f : Nat → Bool} {j : Nat} {b : Bool} : (rowV n f).set j (.bl b) = rowV n fun k => if k = j then b else f k := by
  apply List.ext_getElem?
  intro k
  rw [List.getElem?_set, rowV_len]
  by_cases hk : k < n
  · rw [rowV_at hk, rowV_at hk]
    by_cases e : k = j
    · subst e
      rw [if_pos rfl, if_pos hk, if_pos rfl]
    · rw [if_neg (fun h => e h.symm), if_neg e]
  · have h1 : (rowV n f)[k]? = none := List.getElem?_eq_none_iff.mpr (by rw [rowV_len]; omega)
    have h2 : (rowV n fun k => if k = j then b else f k)[k]? = none := List.getElem?_eq_none_iff.mpr (by rw [rowV_len]; omega)
    rw [h1, h2]
    by_cases e : j = k
    · rw [if_pos e, if_neg (by omega)]
    · rw [if_neg e]
theorem rowV_congr {n : Nat} {f f' : Nat → Bool} (h : ∀ j, j < n → f j = f' j) : rowV n f = rowV n f' := by
  unfold rowV
  refine List.map_congr_left fun j hj => ?_
  rw [h j (List.mem_range.mp hj)]
structure Mat (H : Hp) (m : Addr) (rows : List Addr) (n : Nat) (T : Tm) : Prop where
  top : H m = some (.lst (rows.map V.ref))
  len : rows.length = n
  nd : rows.Nodup
  at_ : ∀ i a, rows[i]? = some a → H a = some (.lst (rowV n (T i)))
theorem Mat.same {H H' : Hp} {m : Addr} {rows : List Addr} {n : Nat} {T : Tm} (x : Mat H m rows n T) (k : Same H H') : Mat H' m rows n T := ⟨k _ _ x.top, x.len, x.nd, fun i a h => k _ _ (x.at_ i a h)⟩
theorem Mat.congr {H : Hp} {m : Addr} {rows : List Addr} {n : Nat} {T T' : Tm} (x : Mat H m rows n T) (h : ∀ i j, i < n → j < n → T i j = T' i j) : Mat H m rows n T' := by
  refine ⟨x.top, x.len, x.nd, fun i a e => ?_⟩
  have hi : i < n := by rw [← x.len]; exact (List.getElem?_eq_some_iff.mp e).1
  rw [x.at_ i a e, rowV_congr fun j hj => h i j hi hj]
theorem Mat.row {H : Hp} {m : Addr} {rows : List Addr} {n : Nat} {T : Tm} (x : Mat H m rows n T) {i : Nat} (h : i < n) : ∃ a, rows[i]? = some a ∧ H a = some (.lst (rowV n (T i))) := by
  have hi : i < rows.length := by rw [x.len]; exact h
  exact ⟨rows[i], by simp [hi], x.at_ i _ (by simp [hi])⟩
theorem Mat.notin {H : Hp} {m : Addr} {rows : List Addr} {n : Nat} {T : Tm} (x : Mat H m rows n T) : m ∉ rows := fun h => by
  obtain ⟨i, hi, e⟩ := List.mem_iff_getElem.mp h
  have h1 := x.at_ i m (by rw [← e]; simp [hi])
  rw [x.top] at h1
  have h2 : rows.map V.ref = rowV n (T i) := by
    injection h1 with h1
    injection h1
  have h3 := congrArg (fun l => l[i]?) h2
  have h4 : (rows.map V.ref)[i]? = some (.ref rows[i]) := by rw [List.getElem?_map]; simp [hi]
  have h5 : (rowV n (T i))[i]? = some (.bl (T i i)) := rowV_at (by rw [← x.len]; exact hi)
  have h6 := h4.symm.trans (h3.trans h5)
  cases h6
/-- all stands but these lists -/
def Out (rows : List Addr) (H H' : Hp) : Prop := ∀ a o, H a = some o → a ∉ rows → H' a = some o
theorem Out.refl (rows : List Addr) (H : Hp) : Out rows H H := fun _ _ h _ => h
theorem Out.trans {rows : List Addr} {H H1 H2 : Hp} (x : Out rows H H1) (y : Out rows H1 H2) : Out rows H H2 := fun a o h n => y a o (x a o h n) n
theorem Out.of {rows : List Addr} {H H' : Hp} (x : Same H H') : Out rows H H' := fun a o h _ => x a o h
/-- the table's rows are lists, so tuples stay -/
theorem Out.kt {m : Addr} {rows : List Addr} {n : Nat} {T : Tm} {H H' : Hp} (x : Out rows H H') (M : Mat H m rows n T) : KeepT H H' := fun a xs h => x a _ h fun hm => by
  obtain ⟨i, hi, e⟩ := List.mem_iff_getElem.mp hm
  have h1 := M.at_ i a (by rw [← e]; simp [hi])
  rw [h] at h1
  cases h1
theorem Out.same {rows : List Addr} {H0 H H' : Hp} (s : Same H0 H) (hn : ∀ a ∈ rows, H0 a = none) (x : Out rows H H') : Same H0 H' := fun a o h => x a o (s a o h) fun hm => by
  rw [hn a hm] at h
  cases h
def setT (T : Tm) (x y : Nat) (b : Bool) : Tm := fun i j => if i = x ∧ j = y then b else T i j
theorem Mat.set {H : Hp} {m a : Addr} {rows : List Addr} {n : Nat} {T : Tm} {x y : Nat} {b : Bool} (M : Mat H m rows n T) (ha : rows[x]? = some a) : Mat (upd H a (.lst ((rowV n (T x)).set y (.bl b)))) m rows n (setT T x y b) ∧ Out rows H (upd H a (.lst ((rowV n (T x)).set y (.bl b)))) := by
  have hm : a ∈ rows := List.mem_of_getElem? ha
  refine ⟨⟨?_, M.len, M.nd, fun i a' e => ?_⟩, fun u o h hu => ?_⟩
  · rw [upd_ne (fun e => M.notin (by rw [e]; exact hm))]
    exact M.top
  · by_cases h : a' = a
    · subst h
      have hi := (List.getElem?_eq_some_iff.mp e).1
      have e2 : i = x := (List.getElem?_inj hi M.nd).mp (e.trans ha.symm)
      subst e2
      rw [upd_same, rowV_set]
      congr 2
      refine rowV_congr fun j _ => ?_
      unfold setT
      by_cases hj : j = y
      · rw [if_pos hj, if_pos ⟨rfl, hj⟩]
      · rw [if_neg hj, if_neg (fun h => hj h.2)]
    · rw [upd_ne h, M.at_ i a' e]
      congr 2
      refine rowV_congr fun j _ => ?_
      unfold setT
      rw [if_neg]
      rintro ⟨rfl, _⟩
      exact h (Option.some.inj (e.symm.trans ha))
  · rw [upd_ne (fun e => hu (by rw [e]; exact hm))]
    exact h
theorem ixN_of {n j : Nat} (h : j < n) : ixN n (j : Int) = some j := by
  unfold ixN
  rw [if_pos (by omega), if_pos (by omega)]
  rfl
section
variable {K : PySem.W.Frag} {H : Hp} {m : Addr} {rows : List Addr} {n : Nat} {T : Tm} {σ : L2.St} {Q : VK}
/-- m[x][y], all three by names -/
theorem rdM {i j k x y : Nat} (M : Mat H m rows n T) (hm : σ[i]? = some (some (.ref m))) (hx : σ[j]? = some (some (.int (x : Int)))) (hy : σ[k]? = some (some (.int (y : Int)))) (lx : x < n) (ly : y < n) (q : Q (.bl (T x y)) H) :
    tOp (rIxL K) (tOp (rIxL K) (tVar i) (tVar j)) (tVar k) σ H Q := by
  obtain ⟨a, ha, hr⟩ := M.row lx
  refine ⟨_, hm, _, hx, _, _, _, .ref a, rfl, rfl, SqL.of M.top, atI_nat (j := x) ?_, _, hy, _, _, _, _, rfl, rfl, SqL.of hr, atI_nat (j := y) (rowV_at ly), q⟩
  rw [List.getElem?_map, ha]
  rfl
/-- a truth value as a test -/
theorem ttB {te : TE} {Q : Bool → Hp → Prop} {b : Bool} (h : ∀ Q' : VK, Q' (.bl b) H → te σ H Q') (q : Q b H) : tB te σ H Q := h _ ⟨_, rfl, q⟩
/-- m[x][y] = b -/
theorem wrM {i j k x y : Nat} {b : Bool} {Q : L2.St → Hp → Prop} (M : Mat H m rows n T) (hm : σ[i]? = some (some (.ref m))) (hx : σ[j]? = some (some (.int (x : Int)))) (hy : σ[k]? = some (some (.int (y : Int)))) (lx : x < n) (ly : y < n)
    (q : ∀ H', Mat H' m rows n (setT T x y b) → Out rows H H' → (∀ a, H a = none → H' a = none) → Q σ H') : gSub (tOp (rIxL K) (tVar i) (tVar j)) (tVar k) rSetL (.bl b) σ H Q := by
  obtain ⟨a, ha, hr⟩ := M.row lx
  obtain ⟨M2, o2⟩ := M.set (y := y) (b := b) ha
  refine ⟨_, hm, _, hx, _, _, _, .ref a, rfl, rfl, SqL.of M.top, atI_nat (j := x) ?_, _, hy, a, _, _, y, rfl, rfl, hr, ?_, q _ M2 o2 fun u hu => ?_⟩
  · rw [List.getElem?_map, ha]
    rfl
  · rw [rowV_len]
    exact ixN_of ly
  · rw [upd_ne (fun e => by rw [e, hr] at hu; cases hu)]
    exact hu
end
end Ns

/-! Own layer, plain: what stands where no end is (threshold), no top (nested), no parting (cograph). -/
namespace Ns
open PySem PySem.Spec PyProof.Rows L2
structure SyT (T : Nat → Nat → Bool) : Prop where
  sy : ∀ x y, T x y = T y x
  ir : ∀ x, T x x = false
/-- how many of some points are tied to one -/
def dgT (T : Nat → Nat → Bool) (P : List Nat) (x : Nat) : Nat := (P.filter (T x)).length
theorem len_le_of_sub : ∀ {es ns : List Nat}, es.Nodup → (∀ x ∈ es, x ∈ ns) → es.length ≤ ns.length
  | [], _, _, _ => Nat.zero_le _
  | e :: r, ns, nd, s => by
    have he := s e (List.mem_cons_self ..)
    have h := len_le_of_sub (es := r) (ns := ns.erase e) (List.nodup_cons.mp nd).2 fun x hx => by
      rcases List.mem_cons.mp ((List.perm_cons_erase he).mem_iff.mp (s x (List.mem_cons_of_mem _ hx))) with e2 | h2
      · rw [e2] at hx
        exact absurd hx (List.nodup_cons.mp nd).1
      · exact h2
    rw [List.length_erase_of_mem he] at h
    have := List.length_pos_of_mem he
    rw [List.length_cons]
    omega
/-- more ties: all of m's, and one more -/
theorem dg_more {T : Nat → Nat → Bool} (S : SyT T) {P : List Nat} (nd : P.Nodup) {m z y : Nat} (hm : m ∈ P) (hz : z ∈ P) (hy : y ∈ P) (hzy : T z y = true) (hmy : T m y = false) (hym : y ≠ m) (h : ∀ b ∈ P, b ≠ z → T m b = true → T z b = true) : dgT T P m < dgT T P z := by
  have zm : z ≠ m := fun e => by rw [e, hmy] at hzy; cases hzy
  have inj : ∀ a ∈ P.filter (T m), ∀ b ∈ P.filter (T m), (if a = z then m else a) = (if b = z then m else b) → a = b := fun a ha b hb e => by
    have ham : a ≠ m := fun e => by
      have := (List.mem_filter.mp ha).2
      rw [e, S.ir] at this
      cases this
    have hbm : b ≠ m := fun e => by
      have := (List.mem_filter.mp hb).2
      rw [e, S.ir] at this
      cases this
    split at e <;> split at e
    · omega
    · exact absurd e.symm hbm
    · exact absurd e ham
    · exact e
  have ndL : ((P.filter (T m)).map fun x => if x = z then m else x).Nodup := by
    rw [List.Nodup, List.pairwise_map]
    exact List.Pairwise.imp_of_mem (fun {a b} ha hb hne e => hne (inj a ha b hb e)) (nd.filter (T m))
  have le := len_le_of_sub (es := y :: (P.filter (T m)).map fun x => if x = z then m else x) (ns := P.filter (T z)) (List.nodup_cons.mpr ⟨fun hy2 => ?_, ndL⟩) fun x hx => ?_
  · rw [List.length_cons, List.length_map] at le
    exact le
  · obtain ⟨x, hx, e⟩ := List.mem_map.mp hy2
    obtain ⟨_, hx2⟩ := List.mem_filter.mp hx
    split at e
    · exact hym e.symm
    · rw [e, hmy] at hx2
      cases hx2
  · rcases List.mem_cons.mp hx with e | hx
    · rw [e]
      exact List.mem_filter.mpr ⟨hy, hzy⟩
    · obtain ⟨u, hu, e⟩ := List.mem_map.mp hx
      obtain ⟨hu1, hu2⟩ := List.mem_filter.mp hu
      split at e
      · rename_i c
        rw [c] at hu2
        rw [← e]
        exact List.mem_filter.mpr ⟨hm, by rw [S.sy]; exact hu2⟩
      · rename_i c
        rw [← e]
        exact List.mem_filter.mpr ⟨hu1, h u hu1 c hu2⟩
theorem max_of (f : Nat → Nat) : ∀ {P : List Nat}, P ≠ [] → ∃ m ∈ P, ∀ x ∈ P, f x ≤ f m
  | [], h => absurd rfl h
  | [a], _ => ⟨a, List.mem_cons_self .., fun x hx => by rw [List.mem_singleton.mp hx]; exact Nat.le_refl _⟩
  | a :: b :: r, _ => by
    obtain ⟨m, hm, h⟩ := max_of f (P := b :: r) (List.cons_ne_nil _ _)
    by_cases c : f m ≤ f a
    · refine ⟨a, List.mem_cons_self .., fun x hx => ?_⟩
      rcases List.mem_cons.mp hx with e | hx
      · rw [e]
        exact Nat.le_refl _
      · exact Nat.le_trans (h x hx) c
    · refine ⟨m, List.mem_cons_of_mem _ hm, fun x hx => ?_⟩
      rcases List.mem_cons.mp hx with e | hx
      · rw [e]
        omega
      · exact h x hx
/-- two points each with a point that the other one is not tied to -/
def CrossP (T : Nat → Nat → Bool) (P : List Nat) (a b c d : Nat) : Prop := a ∈ P ∧ b ∈ P ∧ c ∈ P ∧ d ∈ P ∧ a ≠ d ∧ b ≠ d ∧ c ≠ a ∧ T a b = true ∧ T d b = false ∧ T d c = true ∧ T a c = false
theorem cross_of {T : Nat → Nat → Bool} (S : SyT T) {P : List Nat} (nd : P.Nodup) (ne : P ≠ []) (h1 : ∀ x ∈ P, ∃ y ∈ P, T x y = true) (h2 : ∀ x ∈ P, ∃ y ∈ P, y ≠ x ∧ T x y = false) : ∃ a b c d, CrossP T P a b c d := by
  obtain ⟨m, hm, hmax⟩ := max_of (dgT T P) ne
  obtain ⟨y, hy, hym, hmy⟩ := h2 m hm
  obtain ⟨z, hz, hyz⟩ := h1 y hy
  have hzy : T z y = true := by rw [S.sy]; exact hyz
  have zm : z ≠ m := fun e => by rw [e, hmy] at hzy; cases hzy
  apply Classical.byContradiction
  intro hc
  have hall : ∀ b ∈ P, b ≠ z → T m b = true → T z b = true := fun b hb hbz hmb => by
    cases e : T z b with
    | true => rfl
    | false => exact absurd ⟨m, b, y, z, hm, hb, hy, hz, fun e => zm e.symm, hbz, hym, hmb, e, hzy, hmy⟩ hc
  have := dg_more S nd hm hz hy hzy hmy hym hall
  have := hmax z hz
  omega
/-- no how-tie leads out of a part -/
def Cutt (T : Nat → Nat → Bool) (how : Bool) (P : List Nat) : Prop := ∃ S : Nat → Prop, (∃ x ∈ P, S x) ∧ (∃ y ∈ P, ¬ S y) ∧ ∀ x ∈ P, ∀ y ∈ P, S x → ¬ S y → T x y = !how
/-- what a point of most ties has that is tied to no all -/
def BentP (T : Nat → Nat → Bool) (P : List Nat) (a b c d : Nat) : Prop := a ∈ P ∧ b ∈ P ∧ c ∈ P ∧ d ∈ P ∧ a ≠ c ∧ d ≠ b ∧ T b c = true ∧ T c d = true ∧ T b d = false ∧ T b a = true ∧ T c a = false
theorem bent_a {T : Nat → Nat → Bool} (S : SyT T) {P : List Nat} (nd : P.Nodup) {b c d : Nat} (hb : b ∈ P) (hmax : ∀ x ∈ P, dgT T P x ≤ dgT T P b) (hc : c ∈ P) (hd : d ∈ P) (hdb : d ≠ b) (hcd : T c d = true) (hbd : T b d = false) : ∃ a ∈ P, a ≠ c ∧ T b a = true ∧ T c a = false := by
  apply Classical.byContradiction
  intro hn
  have := dg_more S nd hb hc hd hcd hbd hdb fun a ha hac hba => by
    cases e : T c a with
    | true => rfl
    | false => exact absurd ⟨a, ha, hac, hba, e⟩ hn
  have := hmax c hc
  omega
theorem bent_cd {T : Nat → Nat → Bool} {P : List Nat} (con : ¬ Cutt T true P) {b : Nat} (hb : b ∈ P) (hno : ∃ y ∈ P, y ≠ b ∧ T b y = false) : ∃ c ∈ P, T b c = true ∧ ∃ d ∈ P, d ≠ b ∧ T c d = true ∧ T b d = false := by
  apply Classical.byContradiction
  intro hn
  obtain ⟨y, hy, hyb, hby⟩ := hno
  refine con ⟨fun x => x = b ∨ T b x = true, ⟨b, hb, .inl rfl⟩, ⟨y, hy, fun h => ?_⟩, fun c hc d hd h1 h2 => ?_⟩
  · rcases h with h | h
    · exact hyb h
    · rw [hby] at h
      cases h
  · have hdb : d ≠ b := fun e => h2 (.inl e)
    have hbd : T b d = false := by
      cases e : T b d with
      | true => exact absurd (.inr e) h2
      | false => rfl
    rcases h1 with h1 | h1
    · rw [h1]
      exact hbd
    · cases e : T c d with
      | false => rfl
      | true => exact absurd ⟨c, hc, h1, d, hd, hdb, e, hbd⟩ hn
/-! ### four in a row -/
def P4 (T : Nat → Nat → Bool) (P : List Nat) : Prop := ∃ a b c d, a ∈ P ∧ b ∈ P ∧ c ∈ P ∧ d ∈ P ∧ T a b = true ∧ T b c = true ∧ T c d = true ∧ T a c = false ∧ T b d = false ∧ T a d = false
inductive Rch (T : Nat → Nat → Bool) (R : List Nat) (u : Nat) : Nat → Prop
  | self : Rch T R u u
  | step {x y : Nat} : Rch T R u x → y ∈ R → T x y = true → Rch T R u y
theorem Rch.mem {T : Nat → Nat → Bool} {R : List Nat} {u x : Nat} (hu : u ∈ R) (h : Rch T R u x) : x ∈ R := by
  cases h with
  | self => exact hu
  | step _ h _ => exact h
theorem Rch.trans {T : Nat → Nat → Bool} {R : List Nat} {u x y : Nat} (h : Rch T R u x) (g : Rch T R x y) : Rch T R u y := by
  induction g with
  | self => exact h
  | step _ h1 h2 ih => exact .step ih h1 h2
theorem Rch.symm {T : Nat → Nat → Bool} (S : SyT T) {R : List Nat} {u x : Nat} (hu : u ∈ R) (h : Rch T R u x) : Rch T R x u := by
  induction h with
  | self => exact .self
  | step h1 h2 h3 ih => exact Rch.trans (.step .self (h1.mem hu) (by rw [S.sy]; exact h3)) ih
/-- on the way from a point that is not tied to v to one that is: a tie between two such -/
theorem rch_flip {T : Nat → Nat → Bool} {R : List Nat} {u z v : Nat} (hu : u ∈ R) (h : Rch T R u z) (h1 : T v u = false) (h2 : T v z = true) : ∃ x y, Rch T R u x ∧ Rch T R u y ∧ T v y = false ∧ T v x = true ∧ T y x = true := by
  induction h with
  | self => rw [h1] at h2; cases h2
  | step g1 g2 g3 ih =>
    rename_i x y
    cases e : T v x with
    | true => exact ih e
    | false => exact ⟨y, x, .step g1 g2 g3, g1, e, h2, g3⟩
theorem row_step {T : Nat → Nat → Bool} (S : SyT T) {v : Nat} {R : List Nat} (hv : v ∉ R) (C : Cutt T true R) (no : ¬ P4 T (v :: R)) : Cutt T true (v :: R) ∨ Cutt T false (v :: R) := by
  obtain ⟨X, ⟨p, hp, hpX⟩, ⟨q, hq, hqX⟩, hX⟩ := C
  by_cases hall : ∀ u ∈ R, T v u = true
  · right
    refine ⟨fun x => x = v, ⟨v, List.mem_cons_self .., rfl⟩, ⟨p, List.mem_cons_of_mem _ hp, fun e => hv (e ▸ hp)⟩, fun x hx y hy h1 h2 => ?_⟩
    rw [h1]
    rcases List.mem_cons.mp hy with e | hy
    · exact absurd e h2
    · exact hall y hy
  left
  obtain ⟨u, hu, hvu⟩ : ∃ u ∈ R, T v u = false := by
    apply Classical.byContradiction
    intro hn
    refine hall fun u hu => ?_
    cases e : T v u with
    | true => rfl
    | false => exact absurd ⟨u, hu, e⟩ hn
  -- a part reached from a point none of which is tied to v
  have part : ∀ w ∈ R, (∀ z, Rch T R w z → T v z = false) → Cutt T true (v :: R) := fun w hw hz => by
    refine ⟨fun x => Rch T R w x, ⟨w, List.mem_cons_of_mem _ hw, .self⟩, ⟨v, List.mem_cons_self .., fun h => hv (h.mem hw)⟩, fun x hx y hy h1 h2 => ?_⟩
    rcases List.mem_cons.mp hy with e | hy
    · rw [e, S.sy]
      exact hz x h1
    · cases e : T x y with
      | false => rfl
      | true => exact absurd (.step h1 hy e) h2
  have sides : ∀ {x y}, Rch T R x y → x ∈ R → (X x ↔ X y) := fun {x y} h hx => by
    induction h with
    | self => exact Iff.rfl
    | step g1 g2 g3 ih =>
      rename_i a b
      refine ih.trans ⟨fun h => ?_, fun h => ?_⟩
      · apply Classical.byContradiction
        intro hn
        have := hX a (g1.mem hx) b g2 h hn
        rw [g3] at this
        cases this
      · apply Classical.byContradiction
        intro hn
        have := hX b g2 a (g1.mem hx) h hn
        rw [S.sy, g3] at this
        cases this
  by_cases c1 : ∀ z, Rch T R u z → T v z = false
  · exact part u hu c1
  obtain ⟨w, hw, hwu⟩ : ∃ w ∈ R, ¬ Rch T R u w := by
    by_cases c : X u
    · exact ⟨q, hq, fun h => hqX ((sides h hu).mp c)⟩
    · exact ⟨p, hp, fun h => c ((sides h hu).mpr hpX)⟩
  by_cases c2 : ∀ z, Rch T R w z → T v z = false
  · exact part w hw c2
  exfalso
  have ex : ∀ {w}, ¬ (∀ z, Rch T R w z → T v z = false) → ∃ z, Rch T R w z ∧ T v z = true := fun {w} h => by
    apply Classical.byContradiction
    intro hn
    refine h fun z hz => ?_
    cases e : T v z with
    | false => rfl
    | true => exact absurd ⟨z, hz, e⟩ hn
  obtain ⟨z, hz, hvz⟩ := ex c1
  obtain ⟨w', hw', hvw⟩ := ex c2
  obtain ⟨x, y, hx, hy, hvy, hvx, hyx⟩ := rch_flip hu hz hvu hvz
  have off : ∀ {t}, Rch T R u t → T w' t = false := fun {t} ht => by
    cases e : T w' t with
    | false => rfl
    | true =>
      refine absurd ?_ hwu
      exact (Rch.step ht (hw'.mem hw) (by rw [S.sy]; exact e)).trans (hw'.symm S hw)
  exact no ⟨w', v, x, y, List.mem_cons_of_mem _ (hw'.mem hw), List.mem_cons_self .., List.mem_cons_of_mem _ (hx.mem hu), List.mem_cons_of_mem _ (hy.mem hu), by rw [S.sy]; exact hvw, hvx, by rw [S.sy]; exact hyx, off hx, hvy, off hy⟩
/-- the opposite -/
def opT (T : Nat → Nat → Bool) : Nat → Nat → Bool := fun x y => !T x y && decide (x ≠ y)
theorem SyT.op {T : Nat → Nat → Bool} (S : SyT T) : SyT (opT T) := ⟨fun x y => by
  unfold opT
  rw [S.sy x y, decide_eq_decide.mpr (show x ≠ y ↔ y ≠ x from ne_comm)], fun x => by
  unfold opT
  rw [decide_eq_false (fun h => h rfl), Bool.and_false]⟩
theorem op_true {T : Nat → Nat → Bool} {x y : Nat} (h : opT T x y = true) : T x y = false ∧ x ≠ y := by
  unfold opT at h
  rw [Bool.and_eq_true, Bool.not_eq_true', decide_eq_true_eq] at h
  exact h
theorem op_false {T : Nat → Nat → Bool} {x y : Nat} (h : opT T x y = false) (ne : x ≠ y) : T x y = true := by
  unfold opT at h
  rw [decide_eq_true ne, Bool.and_true, Bool.not_eq_false'] at h
  exact h
theorem P4.op {T : Nat → Nat → Bool} (S : SyT T) {P : List Nat} (h : P4 (opT T) P) : P4 T P := by
  obtain ⟨a, b, c, d, ha, hb, hc, hd, h1, h2, h3, h4, h5, h6⟩ := h
  have n1 : a ≠ c := fun e => by rw [e, h3] at h6; cases h6
  have n2 : b ≠ d := fun e => by rw [e, h6] at h1; cases h1
  have n3 : a ≠ d := fun e => by
    rw [e, S.op.sy, h3] at h4
    cases h4
  exact ⟨b, d, a, c, hb, hd, ha, hc, op_false h5 n2, by rw [S.sy]; exact op_false h6 n3, op_false h4 n1, by rw [S.sy]; exact (op_true h1).1, by rw [S.sy]; exact (op_true h3).1, (op_true h2).1⟩
theorem cut_op {T : Nat → Nat → Bool} {how : Bool} {P : List Nat} (h : Cutt (opT T) how P) : Cutt T (!how) P := by
  obtain ⟨X, h1, h2, h3⟩ := h
  refine ⟨X, h1, h2, fun x hx y hy a b => ?_⟩
  have ne : x ≠ y := fun e => b (e ▸ a)
  have := h3 x hx y hy a b
  cases how with
  | true => exact op_false this ne
  | false => exact (op_true this).1
theorem op_cut {T : Nat → Nat → Bool} {P : List Nat} (h : Cutt T false P) : Cutt (opT T) true P := by
  obtain ⟨X, h1, h2, h3⟩ := h
  refine ⟨X, h1, h2, fun x hx y hy a b => ?_⟩
  unfold opT
  rw [h3 x hx y hy a b]
  rfl
/-- points without four in a row hang not together by ties, or not by what is not tied -/
theorem row_of {T : Nat → Nat → Bool} (S : SyT T) : ∀ {P : List Nat}, P.Nodup → 2 ≤ P.length → ¬ P4 T P → Cutt T true P ∨ Cutt T false P
  | [], _, h, _ => absurd h (by decide)
  | [_], _, h, _ => absurd h (by show ¬ 2 ≤ 1; decide)
  | [v, w], nd, _, _ => by
    have ne : w ≠ v := fun e => by rw [e] at nd; simp at nd
    have cut : ∀ how, T v w = !how → Cutt T how [v, w] := fun how h => ⟨fun x => x = v, ⟨v, by simp, rfl⟩, ⟨w, by simp, ne⟩, fun x hx y hy h1 h2 => by
      rcases List.mem_cons.mp hy with e | hy
      · exact absurd e h2
      · rw [h1, List.mem_singleton.mp hy]
        exact h⟩
    cases e : T v w with
    | true => exact .inr (cut false e)
    | false => exact .inl (cut true e)
  | v :: w :: z :: r, nd, _, no => by
    have nd2 := List.nodup_cons.mp nd
    have noR : ¬ P4 T (w :: z :: r) := fun ⟨a, b, c, d, ha, hb, hc, hd, h⟩ => no ⟨a, b, c, d, List.mem_cons_of_mem _ ha, List.mem_cons_of_mem _ hb, List.mem_cons_of_mem _ hc, List.mem_cons_of_mem _ hd, h⟩
    rcases row_of S (P := w :: z :: r) nd2.2 (by simp) noR with h | h
    · exact row_step S nd2.1 h no
    · rcases row_step S.op nd2.1 (op_cut h) (fun h => no (h.op S)) with h | h
      · exact .inr (cut_op h)
      · exact .inl (cut_op h)
end Ns

/-! Own layer, plain: pieces by ties, or by what is not tied. -/
namespace Ns
open PySem PySem.Spec PyProof.Rows L2
/-- all of Z hangs together with f by how-ties -/
def Conn (T : Nat → Nat → Bool) (how : Bool) (f : Nat) (Z : List Nat) : Prop := ∀ S : Nat → Prop, S f → (∀ x ∈ Z, ∀ y ∈ Z, S x → T x y = how → S y) → ∀ x ∈ Z, S x
theorem Conn.no_cut {T : Nat → Nat → Bool} (S : SyT T) {how : Bool} {f : Nat} {Z : List Nat} (h : Conn T how f Z) : ¬ Cutt T how Z := by
  rintro ⟨X, ⟨x, hx, hxX⟩, ⟨y, hy, hyX⟩, hX⟩
  have nb : ∀ b : Bool, (!b) ≠ b := fun b => by cases b <;> decide
  by_cases c : X f
  · exact hyX (h X c (fun u hu v hv h1 h2 => by
      apply Classical.byContradiction
      intro hn
      have := hX u hu v hv h1 hn
      rw [h2] at this
      exact nb how this.symm) y hy)
  · exact h (fun z => ¬ X z) c (fun u hu v hv h1 h2 hv2 => by
      have := hX v hv u hu hv2 h1
      rw [S.sy, h2] at this
      exact nb how this.symm) x hx hxX
structure InnP (T : Nat → Nat → Bool) (how : Bool) (L0 piece now left : List Nat) (f : Nat) : Prop where
  pm : (piece ++ (now ++ left)).Perm L0
  off : ∀ x ∈ piece, ∀ y ∈ left, T x y = !how
  con : Conn T how f (piece ++ now)
  fm : f ∈ piece ++ now
  lo : left.Sublist L0
  fh : L0.head? = some f
theorem InnP.start {T : Nat → Nat → Bool} {how : Bool} {f : Nat} {r : List Nat} : InnP T how (f :: r) [] [f] r f :=
  ⟨List.Perm.refl _, fun x h => (nomatch h), fun S h _ x hx => by
    rw [List.mem_singleton.mp hx]
    exact h, List.mem_singleton.mpr rfl, List.sublist_cons_self .., rfl⟩
theorem filter_part (p : Nat → Bool) : ∀ l : List Nat, (l.filter p ++ l.filter fun y => !p y).Perm l
  | [] => List.Perm.refl _
  | a :: l => by
    have h := filter_part p l
    cases e : p a with
    | true =>
      rw [List.filter_cons_of_pos e, List.filter_cons_of_neg (by rw [e]; decide)]
      exact h.cons a
    | false =>
      rw [List.filter_cons_of_neg (by rw [e]; decide), List.filter_cons_of_pos (by rw [e]; rfl)]
      exact List.perm_middle.trans (h.cons a)
theorem mem_in {p n F : List Nat} {x z : Nat} (h : z ∈ p ++ (n ++ [x])) : z ∈ (p ++ [x]) ++ (n ++ F) := by
  rcases List.mem_append.mp h with h | h
  · exact List.mem_append_left _ (List.mem_append_left _ h)
  · rcases List.mem_append.mp h with h | h
    · exact List.mem_append_right _ (List.mem_append_left _ h)
    · exact List.mem_append_left _ (List.mem_append_right _ h)
theorem mem_out {p n F : List Nat} {x z : Nat} (h : z ∈ (p ++ [x]) ++ (n ++ F)) : z ∈ p ++ (n ++ [x]) ∨ z ∈ F := by
  rcases List.mem_append.mp h with h | h
  · rcases List.mem_append.mp h with h | h
    · exact .inl (List.mem_append_left _ h)
    · exact .inl (List.mem_append_right _ (List.mem_append_right _ h))
  · rcases List.mem_append.mp h with h | h
    · exact .inl (List.mem_append_right _ (List.mem_append_left _ h))
    · exact .inr h
theorem InnP.step {T : Nat → Nat → Bool} {how : Bool} {L0 piece now left : List Nat} {f x : Nat} (h : InnP T how L0 piece (now ++ [x]) left f) : InnP T how L0 (piece ++ [x]) (now ++ left.filter fun y => T x y == how) (left.filter fun y => !(T x y == how)) f := by
  refine ⟨?_, fun a ha y hy => ?_, fun S hf hS a ha => ?_, ?_, List.filter_sublist.trans h.lo, h.fh⟩
  · refine List.Perm.trans ?_ h.pm
    rw [List.append_assoc, List.append_assoc, List.append_assoc]
    refine List.Perm.append_left _ ?_
    show (x :: (now ++ (_ ++ _))).Perm (now ++ (x :: left))
    refine List.Perm.trans ?_ List.perm_middle.symm
    exact ((filter_part _ left).append_left now).cons x
  · obtain ⟨hy1, hy2⟩ := List.mem_filter.mp hy
    rcases List.mem_append.mp ha with ha | ha
    · exact h.off a ha y hy1
    · rw [List.mem_singleton.mp ha]
      rw [Bool.not_eq_true', beq_eq_false_iff_ne] at hy2
      cases e : T x y <;> cases how <;> first | rfl | exact absurd e hy2
  · have old : ∀ z ∈ piece ++ (now ++ [x]), S z := h.con S hf fun u hu v hv h1 h2 => by
      exact hS u (mem_in hu) v (mem_in hv) h1 h2
    have hx : x ∈ piece ++ (now ++ [x]) := by simp
    by_cases c : a ∈ piece ++ (now ++ [x])
    · exact old a c
    · have ha2 : a ∈ left.filter fun y => T x y == how := (mem_out ha).resolve_left c
      have := (List.mem_filter.mp ha2).2
      exact hS x (mem_in hx) a ha (old x hx) (beq_iff_eq.mp this)
  · exact mem_in h.fm
theorem Conn.perm {T : Nat → Nat → Bool} {how : Bool} {f : Nat} {Z Z' : List Nat} (p : Z'.Perm Z) (h : Conn T how f Z) : Conn T how f Z' := fun S hf hS x hx =>
  h S hf (fun u hu v hv => hS u (p.mem_iff.mpr hu) v (p.mem_iff.mpr hv)) x (p.mem_iff.mp hx)
structure PcsP (T : Nat → Nat → Bool) (how : Bool) (ps : List Nat) (Ls : List (List Nat)) (left : List Nat) : Prop where
  pm : (Ls.flatten ++ left).Perm ps
  one : ∀ L ∈ Ls, L.Pairwise (· ≤ ·) ∧ ∃ f ∈ L, Conn T how f L
  two : Ls.Pairwise fun A B => ∀ x ∈ A, ∀ y ∈ B, T x y = !how
  off : ∀ L ∈ Ls, ∀ x ∈ L, ∀ y ∈ left, T x y = !how
  up : ps.Pairwise (· < ·) → left.Pairwise (· < ·) ∧ (∀ L ∈ Ls, ∀ y ∈ left, L.headD 0 < y) ∧ Ls.Pairwise fun A B => A.headD 0 < B.headD 0
theorem PcsP.start {T : Nat → Nat → Bool} {how : Bool} {ps : List Nat} : PcsP T how ps [] ps := ⟨List.Perm.refl _, fun _ h => (nomatch h), .nil, fun _ h => (nomatch h), fun h => ⟨h, fun _ h => (nomatch h), .nil⟩⟩
/-- the least of a rising row stands in front -/
theorem head_least {l : List Nat} (so : l.Pairwise (· ≤ ·)) {f : Nat} (hf : f ∈ l) (le : ∀ x ∈ l, f ≤ x) : l.headD 0 = f := by
  cases l with
  | nil => cases hf
  | cons a r =>
    show a = f
    have h1 := le a (List.mem_cons_self ..)
    rcases List.mem_cons.mp hf with e | hr
    · exact e.symm
    · have := (List.pairwise_cons.mp so).1 f hr
      omega
theorem PcsP.step {T : Nat → Nat → Bool} {how : Bool} {ps : List Nat} {Ls : List (List Nat)} {left piece left' L : List Nat} {f : Nat} (h : PcsP T how ps Ls left) (i : InnP T how left piece [] left' f) (pL : L.Perm piece) (so : L.Pairwise (· ≤ ·)) : PcsP T how ps (Ls ++ [L]) left' := by
  have con := i.con
  have fm := i.fm
  have pm := i.pm
  rw [List.append_nil] at con fm
  rw [List.nil_append] at pm
  have inl : ∀ x ∈ L, x ∈ left := fun x hx => pm.mem_iff.mp (List.mem_append_left _ (pL.mem_iff.mp hx))
  refine ⟨?_, fun A hA => ?_, ?_, fun A hA x hx y hy => ?_, fun hps => ?_⟩
  rotate_left 4
  · obtain ⟨u1, u2, u3⟩ := h.up hps
    have hfl : f ∈ left := List.mem_of_head? i.fh
    have fle : ∀ x ∈ left, f ≤ x := fun x hx => by
      have hh := i.fh
      cases left with
      | nil => cases hfl
      | cons a r =>
        have e : a = f := Option.some.inj hh
        subst e
        rcases List.mem_cons.mp hx with e | hr
        · exact Nat.le_of_eq e.symm
        · exact Nat.le_of_lt ((List.pairwise_cons.mp u1).1 x hr)
    have hL : L.headD 0 = f := head_least so (pL.mem_iff.mpr fm) fun x hx => fle x (inl x hx)
    refine ⟨u1.sublist i.lo, fun A hA y hy => ?_, ?_⟩
    · have hyl : y ∈ left := i.lo.subset hy
      rcases List.mem_append.mp hA with hA | hA
      · exact u2 A hA y hyl
      · rw [List.mem_singleton.mp hA, hL]
        have nd : (piece ++ left').Nodup := pm.nodup_iff.mpr (u1.imp fun h => Nat.ne_of_lt h)
        have ne : f ≠ y := fun e => (List.nodup_append.mp nd).2.2 f fm y hy e
        have := fle y hyl
        omega
    · refine List.pairwise_append.mpr ⟨u3, List.pairwise_singleton _ _, fun A hA B hB => ?_⟩
      rw [List.mem_singleton.mp hB, hL]
      exact u2 A hA f hfl
  · rw [List.flatten_append, List.flatten_cons, List.flatten_nil, List.append_nil, List.append_assoc]
    exact (((pL.append_right left').trans pm).append_left _).trans h.pm
  · rcases List.mem_append.mp hA with hA | hA
    · exact h.one A hA
    · rw [List.mem_singleton.mp hA]
      exact ⟨so, f, pL.mem_iff.mpr fm, con.perm pL⟩
  · refine List.pairwise_append.mpr ⟨h.two, List.pairwise_singleton _ _, fun A hA B hB => ?_⟩
    rw [List.mem_singleton.mp hB]
    exact fun x hx y hy => h.off A hA x hx y (inl y hy)
  · have hyl : y ∈ left := pm.mem_iff.mp (List.mem_append_right _ hy)
    rcases List.mem_append.mp hA with hA | hA
    · exact h.off A hA x hx y hyl
    · rw [List.mem_singleton.mp hA] at hx
      exact i.off x (pL.mem_iff.mp hx) y hy
/-- the pieces of some points -/
def PcsOk (T : Nat → Nat → Bool) (how : Bool) (ps : List Nat) (Ls : List (List Nat)) : Prop := PcsP T how ps Ls []
/-- one piece alone: no parting -/
theorem PcsOk.one_ {T : Nat → Nat → Bool} (S : SyT T) {how : Bool} {ps L : List Nat} (h : PcsOk T how ps [L]) : ¬ Cutt T how ps := by
  obtain ⟨_, f, hf, con⟩ := h.one L (List.mem_singleton.mpr rfl)
  have pm := h.pm
  rw [List.append_nil, List.flatten_cons, List.flatten_nil, List.append_nil] at pm
  exact (con.perm pm.symm).no_cut S
end Ns

/-! Own layer, plain: alike sets, strong ones, and the parts of which a tree is made. -/
namespace Ns
open PySem PySem.Spec PyProof.Rows L2
section
variable {T : Nat → Nat → Bool} {P : List Nat}
/-- alike among P: a point outside is tied to all of S, or to none -/
def Md (T : Nat → Nat → Bool) (P : List Nat) (S : Nat → Prop) : Prop := ∀ z ∈ P, ¬ S z → ∀ a ∈ P, ∀ b ∈ P, S a → S b → T z a = T z b
/-- the two meet, and none lies within the other -/
def Lap (P : List Nat) (S M : Nat → Prop) : Prop := (∃ x ∈ P, S x ∧ M x) ∧ (∃ x ∈ P, S x ∧ ¬ M x) ∧ ∃ x ∈ P, M x ∧ ¬ S x
structure Strg (T : Nat → Nat → Bool) (P : List Nat) (S : Nat → Prop) : Prop where
  md : Md T P S
  ne : ∃ x ∈ P, S x
  no : ∀ M, Md T P M → ¬ Lap P S M
theorem Md.union {S M : Nat → Prop} (hS : Md T P S) (hM : Md T P M) (sh : ∃ x ∈ P, S x ∧ M x) : Md T P fun x => S x ∨ M x := by
  obtain ⟨x, hx, xS, xM⟩ := sh
  intro z hz nz a ha b hb ua ub
  have to : ∀ c ∈ P, S c ∨ M c → T z c = T z x := fun c hc uc => uc.elim (fun h => hS z hz (fun h => nz (.inl h)) c hc x hx h xS) fun h => hM z hz (fun h => nz (.inr h)) c hc x hx h xM
  rw [to a ha ua, to b hb ub]
theorem Md.inter {S M : Nat → Prop} (hS : Md T P S) (hM : Md T P M) : Md T P fun x => S x ∧ M x := by
  intro z hz nz a ha b hb ua ub
  by_cases h : S z
  · exact hM z hz (fun g => nz ⟨h, g⟩) a ha b hb ua.2 ub.2
  · exact hS z hz h a ha b hb ua.1 ub.1
theorem Md.sub {S : Nat → Prop} {P' : List Nat} (h : Md T P S) (s : ∀ x ∈ P', x ∈ P) : Md T P' S := fun z hz nz a ha b hb => h z (s z hz) nz a (s a ha) b (s b hb)
theorem Md.lift {S : Nat → Prop} {C : List Nat} (hC : Md T P (· ∈ C)) (sC : ∀ x ∈ C, x ∈ P) (h : Md T C S) (in_ : ∀ x ∈ P, S x → x ∈ C) : Md T P S := by
  intro z hz nz a ha b hb ua ub
  by_cases c : z ∈ C
  · exact h z c nz a (in_ a ha ua) b (in_ b hb ub) ua ub
  · exact hC z hz c a ha b hb (in_ a ha ua) (in_ b hb ub)
theorem Md.whole : Md T P (· ∈ P) := fun z hz nz => absurd hz nz
theorem Md.one (x : Nat) : Md T P (· = x) := fun z hz nz a ha b hb ua ub => by
  have ua : a = x := ua
  have ub : b = x := ub
  rw [ua, ub]
theorem Strg.whole (h : P ≠ []) : Strg T P (· ∈ P) := ⟨Md.whole, by
  cases P with
  | nil => exact absurd rfl h
  | cons a r => exact ⟨a, List.mem_cons_self .., List.mem_cons_self ..⟩, fun M _ l => by
  obtain ⟨_, _, x, hx, _, n⟩ := l
  exact n hx⟩
/-- two strong sets that meet: one lies within the other -/
theorem Strg.in_or {S M : Nat → Prop} (h : Strg T P S) (hM : Md T P M) (sh : ∃ x ∈ P, S x ∧ M x) : (∀ x ∈ P, S x → M x) ∨ ∀ x ∈ P, M x → S x := by
  apply Classical.byContradiction
  intro hn
  rw [not_or] at hn
  refine h.no M hM ⟨sh, ?_, ?_⟩
  · apply Classical.byContradiction
    intro g
    exact hn.1 fun x hx hs => Classical.byContradiction fun k => g ⟨x, hx, hs, k⟩
  · apply Classical.byContradiction
    intro g
    exact hn.2 fun x hx hs => Classical.byContradiction fun k => g ⟨x, hx, hs, k⟩
/-- the greatest strong sets but the whole -/
structure Kids (T : Nat → Nat → Bool) (P : List Nat) (Ls : List (List Nat)) : Prop where
  pm : Ls.flatten.Perm P
  str : ∀ L ∈ Ls, Strg T P (· ∈ L)
  all : ∀ S, Strg T P S → (∃ x ∈ P, ¬ S x) → ∃ L ∈ Ls, ∀ x ∈ P, S x → x ∈ L
theorem Kids.mem {Ls : List (List Nat)} (k : Kids T P Ls) {L : List Nat} (hL : L ∈ Ls) : ∀ x ∈ L, x ∈ P := fun x hx => k.pm.mem_iff.mp (List.mem_flatten.mpr ⟨L, hL, hx⟩)
/-- strong within a part: strong -/
theorem Kids.up {Ls : List (List Nat)} (k : Kids T P Ls) {L : List Nat} (hL : L ∈ Ls) {S : Nat → Prop} (hS : Strg T L S) (in_ : ∀ x ∈ P, S x → x ∈ L) : Strg T P S := by
  have sL := k.mem hL
  have kL := k.str L hL
  refine ⟨Md.lift kL.md sL hS.md in_, ?_, fun M hM l => ?_⟩
  · obtain ⟨x, hx, h⟩ := hS.ne
    exact ⟨x, sL x hx, h⟩
  · obtain ⟨⟨x, hx, xS, xM⟩, ⟨y, hy, yS, yM⟩, z, hz, zM, zS⟩ := l
    rcases kL.in_or hM ⟨x, hx, in_ x hx xS, xM⟩ with g | g
    · exact yM (g y hy (in_ y hy yS))
    · exact hS.no M (hM.sub sL) ⟨⟨x, in_ x hx xS, xS, xM⟩, ⟨y, in_ y hy yS, yS, yM⟩, z, g z hz zM, zM, zS⟩
theorem Kids.down {Ls : List (List Nat)} (k : Kids T P Ls) {L : List Nat} (hL : L ∈ Ls) {S : Nat → Prop} (hS : Strg T P S) (in_ : ∀ x ∈ P, S x → x ∈ L) : Strg T L S := by
  have sL := k.mem hL
  have kL := k.str L hL
  refine ⟨hS.md.sub sL, ?_, fun M hM l => ?_⟩
  · obtain ⟨x, hx, h⟩ := hS.ne
    exact ⟨x, in_ x hx h, h⟩
  · obtain ⟨⟨x, hx, xS, xM⟩, ⟨y, hy, yS, yM⟩, z, hz, zM, zS⟩ := l
    refine hS.no (fun u => u ∈ L ∧ M u) (Md.lift kL.md sL (Md.inter (fun z hz nz => absurd hz nz) hM) fun u _ h => h.1) ⟨⟨x, sL x hx, xS, hx, xM⟩, ⟨y, sL y hy, yS, fun h => yM h.2⟩, z, sL z hz, ⟨hz, zM⟩, zS⟩
theorem part_same : ∀ {Ls : List (List Nat)} {L C : List Nat} {x : Nat}, Ls.flatten.Nodup → L ∈ Ls → C ∈ Ls → x ∈ L → x ∈ C → L = C
  | A :: r, L, C, x, nd, hL, hC, xL, xC => by
    rw [List.flatten_cons] at nd
    obtain ⟨_, n2, n3⟩ := List.nodup_append.mp nd
    rcases List.mem_cons.mp hL with e1 | h1 <;> rcases List.mem_cons.mp hC with e2 | h2
    · rw [e1, e2]
    · exact absurd rfl (n3 x (e1 ▸ xL) x (List.mem_flatten.mpr ⟨C, h2, xC⟩))
    · exact absurd rfl (n3 x (e2 ▸ xC) x (List.mem_flatten.mpr ⟨L, h1, xL⟩))
    · exact part_same n2 h1 h2 xL xC
/-! ### parts by ties, or by what is not tied -/
theorem pcs_md (S : SyT T) {how : Bool} {Ls : List (List Nat)} (ok : PcsOk T how P Ls) (nd : P.Nodup) {L : List Nat} (hL : L ∈ Ls) : ∀ z ∈ P, z ∉ L → ∀ a ∈ L, T z a = !how := by
  have pm := ok.pm
  rw [List.append_nil] at pm
  intro z hz nz a ha
  obtain ⟨B, hB, hzB⟩ := List.mem_flatten.mp (pm.mem_iff.mpr hz)
  obtain ⟨i, hi⟩ := List.getElem?_of_mem hL
  obtain ⟨j, hj⟩ := List.getElem?_of_mem hB
  obtain ⟨hi1, hi2⟩ := List.getElem?_eq_some_iff.mp hi
  obtain ⟨hj1, hj2⟩ := List.getElem?_eq_some_iff.mp hj
  rcases Nat.lt_trichotomy i j with c | c | c
  · have := List.pairwise_iff_getElem.mp ok.two i j hi1 hj1 c a (by rw [hi2]; exact ha) z (by rw [hj2]; exact hzB)
    rw [S.sy]
    exact this
  · subst c
    rw [← hj2, hi2] at hzB
    exact absurd hzB nz
  · exact List.pairwise_iff_getElem.mp ok.two j i hj1 hi1 c z (by rw [hj2]; exact hzB) a (by rw [hi2]; exact ha)
theorem not_ne {b c : Bool} (h : b = !c) (g : b = c) : False := by
  rw [g] at h
  cases c <;> cases h
theorem kids_pieces (S : SyT T) {how : Bool} {Ls : List (List Nat)} (ok : PcsOk T how P Ls) (nd : P.Nodup) (two : 2 ≤ Ls.length) : Kids T P Ls := by
  have pm := ok.pm
  rw [List.append_nil] at pm
  have off : ∀ {L}, L ∈ Ls → ∀ z ∈ P, z ∉ L → ∀ a ∈ L, T z a = !how := fun {L} hL => pcs_md S ok nd hL
  have inP : ∀ {L}, L ∈ Ls → ∀ x ∈ L, x ∈ P := fun {L} hL x hx => pm.mem_iff.mp (List.mem_flatten.mpr ⟨L, hL, hx⟩)
  have md : ∀ {L}, L ∈ Ls → Md T P (· ∈ L) := fun {L} hL z hz nz a ha b hb ua ub => by
    rw [off hL z hz nz a ua, off hL z hz nz b ub]
  -- an alike set that meets a part and reaches out of it holds it
  have hold : ∀ {L}, L ∈ Ls → ∀ M, Md T P M → (∃ x ∈ P, x ∈ L ∧ M x) → (∃ y ∈ P, M y ∧ y ∉ L) → ∀ x ∈ L, M x := fun {L} hL M hM ⟨x, hx, xL, xM⟩ ⟨y, hy, yM, yL⟩ => by
    obtain ⟨_, f, hf, con⟩ := ok.one L hL
    have step : ∀ u ∈ L, ∀ v ∈ L, M u → T u v = how → M v := fun u hu v hv hu2 e => by
      apply Classical.byContradiction
      intro hn
      have h1 := hM v (inP hL v hv) hn u (inP hL u hu) y hy hu2 yM
      have h2 := off hL y hy yL v hv
      rw [S.sy, e, S.sy v y, h2] at h1
      cases how <;> cases h1
    by_cases c : M f
    · exact con M c step
    · have := con (fun z => ¬ M z) c (fun u hu v hv h1 e h2 => h1 (step v hv u hu h2 (by rw [S.sy]; exact e))) x xL
      exact absurd xM this
  have nonempty : ∀ {L}, L ∈ Ls → ∃ f, f ∈ L := fun {L} hL => by
    obtain ⟨_, f, hf, _⟩ := ok.one L hL
    exact ⟨f, hf⟩
  refine ⟨pm, fun L hL => ⟨md hL, ?_, fun M hM l => ?_⟩, fun S' hS hex => ?_⟩
  · obtain ⟨f, hf⟩ := nonempty hL
    exact ⟨f, inP hL f hf, hf⟩
  · obtain ⟨⟨x, hx, xL, xM⟩, ⟨y, hy, yL, yM⟩, z, hz, zM, zL⟩ := l
    exact yM (hold hL M hM ⟨x, hx, xL, xM⟩ ⟨z, hz, zM, zL⟩ y yL)
  · obtain ⟨x, hx, xS⟩ := hS.ne
    obtain ⟨L, hL, xL⟩ := List.mem_flatten.mp (pm.mem_iff.mpr hx)
    refine ⟨L, hL, ?_⟩
    apply Classical.byContradiction
    intro hn
    obtain ⟨y, hy, yS, yL⟩ : ∃ y ∈ P, S' y ∧ y ∉ L := by
      apply Classical.byContradiction
      intro g
      exact hn fun u hu us => Classical.byContradiction fun k => g ⟨u, hu, us, k⟩
    obtain ⟨z, hz, zS⟩ := hex
    obtain ⟨C, hC, zC⟩ := List.mem_flatten.mp (pm.mem_iff.mpr hz)
    have hLS := hold hL S' hS.md ⟨x, hx, xL, xS⟩ ⟨y, hy, yS, yL⟩
    -- L and C together are alike
    have hu : Md T P fun u => u ∈ L ∨ u ∈ C := fun v hv nv a ha b hb ua ub => by
      have to : ∀ c, c ∈ L ∨ c ∈ C → T v c = !how := fun c hc => hc.elim (off hL v hv (fun h => nv (.inl h)) c) (off hC v hv (fun h => nv (.inr h)) c)
      rw [to a ua, to b ub]
    have yC : y ∉ C := fun h => by
      -- C meets S' and reaches out of it: S' holds it
      by_cases e : ∃ w ∈ P, S' w ∧ w ∉ C
      · exact zS (hold hC S' hS.md ⟨y, hy, h, yS⟩ e z zC)
      · have xC : x ∈ C := Classical.byContradiction fun k => e ⟨x, hx, xS, k⟩
        have : T x y = !how ∨ x ∈ L ∧ y ∈ L := by
          by_cases q : x ∈ L ∧ y ∈ L
          · exact .inr q
          · left
            rw [S.sy]
            exact off hL y hy yL x xL
        -- x in both L and C: the same part
        have e2 : ∀ w ∈ P, w ∈ C → w ∈ L := fun w hw wC => by
          apply Classical.byContradiction
          intro wL
          rw [part_same (pm.nodup_iff.mpr nd) hL hC xL xC] at wL
          exact wL wC
        exact yL (e2 y hy h)
    exact hS.no _ hu ⟨⟨x, hx, xS, .inl xL⟩, ⟨y, hy, yS, fun h => h.elim yL yC⟩, z, hz, .inr zC, zS⟩
/-! ### parts where neither ties nor what is not tied part them -/
/-- some alike set but the whole holds both -/
def Sib (T : Nat → Nat → Bool) (P : List Nat) (x y : Nat) : Prop := ∃ M : Nat → Prop, Md T P M ∧ M x ∧ M y ∧ ∃ z ∈ P, ¬ M z
theorem Sib.symm {x y : Nat} (h : Sib T P x y) : Sib T P y x := by
  obtain ⟨M, a, b, c, d⟩ := h
  exact ⟨M, a, c, b, d⟩
theorem Sib.self {x : Nat} (nd : P.Nodup) (two : 2 ≤ P.length) : Sib T P x x := by
  refine ⟨(· = x), Md.one x, rfl, rfl, ?_⟩
  apply Classical.byContradiction
  intro hn
  have all : ∀ z ∈ P, z = x := fun z hz => Classical.byContradiction fun k => hn ⟨z, hz, k⟩
  match P, two, nd, all with
  | a :: b :: r, _, nd, all =>
    have e1 := all a (List.mem_cons_self ..)
    have e2 := all b (List.mem_cons_of_mem _ (List.mem_cons_self ..))
    exact (List.nodup_cons.mp nd).1 (by rw [e1, ← e2]; exact List.mem_cons_self ..)
/-- two alike sets but the whole that meet: together they are not the whole -/
theorem union_less (S : SyT T) (n1 : ¬ Cutt T true P) (n2 : ¬ Cutt T false P) {M N : Nat → Prop} (hM : Md T P M) (hN : Md T P N) (mM : ∃ z ∈ P, ¬ M z) (mN : ∃ z ∈ P, ¬ N z) (sh : ∃ x ∈ P, M x ∧ N x) : ∃ z ∈ P, ¬ (M z ∨ N z) := by
  apply Classical.byContradiction
  intro hn
  have all : ∀ z ∈ P, M z ∨ N z := fun z hz => Classical.byContradiction fun k => hn ⟨z, hz, k⟩
  obtain ⟨u, hu, uM⟩ := mM
  obtain ⟨v, hv, vN⟩ := mN
  obtain ⟨x, hx, xM, xN⟩ := sh
  have uN := (all u hu).resolve_left uM
  have vM := (all v hv).resolve_right vN
  -- all of what is not in N is tied alike to all of N
  have key : ∀ a ∈ P, ¬ N a → ∀ b ∈ P, N b → T a b = T v x := fun a ha aN b hb bN => by
    have aM := (all a ha).resolve_right aN
    -- T a b = T a u by N; T u a = T u v by M; T v u = T v x by N
    rw [hN a ha aN b hb u hu bN uN, S.sy a u, hM u hu uM a ha v hv aM vM, S.sy u v]
    exact hN v hv vN u hu x hx uN xN
  cases e : T v x with
  | true => exact n2 ⟨N, ⟨u, hu, uN⟩, ⟨v, hv, vN⟩, fun b hb a ha hbN haN => by rw [S.sy, key a ha haN b hb hbN, e]; rfl⟩
  | false => exact n1 ⟨N, ⟨u, hu, uN⟩, ⟨v, hv, vN⟩, fun b hb a ha hbN haN => by rw [S.sy, key a ha haN b hb hbN, e]; rfl⟩
theorem Sib.trans (S : SyT T) (n1 : ¬ Cutt T true P) (n2 : ¬ Cutt T false P) {x y z : Nat} (hy : y ∈ P) (h : Sib T P x y) (g : Sib T P y z) : Sib T P x z := by
  obtain ⟨M, a, b, c, d⟩ := h
  obtain ⟨N, a', b', c', d'⟩ := g
  exact ⟨_, a.union a' ⟨y, hy, c, b'⟩, .inl b, .inr c', union_less S n1 n2 a a' d d' ⟨y, hy, c, b'⟩⟩
/-- all that is with x in an alike set but the whole: alike, and not the whole -/
theorem sib_md (S : SyT T) (n1 : ¬ Cutt T true P) (n2 : ¬ Cutt T false P) {x : Nat} (hx : x ∈ P) : Md T P (Sib T P x) := by
  have to : ∀ z ∈ P, ¬ Sib T P x z → ∀ a ∈ P, Sib T P x a → T z a = T z x := fun z hz nz a ha h => by
    obtain ⟨M, m, mx, ma, mz⟩ := h
    exact m z hz (fun k => nz ⟨M, m, mx, k, mz⟩) a ha x hx ma mx
  intro z hz nz a ha b hb ua ub
  rw [to z hz nz a ha ua, to z hz nz b hb ub]
theorem sib_less (S : SyT T) (nd : P.Nodup) (two : 2 ≤ P.length) (n1 : ¬ Cutt T true P) (n2 : ¬ Cutt T false P) {x : Nat} (hx : x ∈ P) : ∃ z ∈ P, ¬ Sib T P x z := by
  apply Classical.byContradiction
  intro hn
  have all : ∀ z ∈ P, Sib T P x z := fun z hz => Classical.byContradiction fun k => hn ⟨z, hz, k⟩
  -- an alike set but the whole that holds all of a list
  have grow : ∀ l : List Nat, (∀ z ∈ l, z ∈ P) → ∃ M : Nat → Prop, Md T P M ∧ M x ∧ (∀ z ∈ l, M z) ∧ ∃ z ∈ P, ¬ M z := fun l => by
    induction l with
    | nil =>
      intro _
      obtain ⟨M, a, b, _, d⟩ := Sib.self (T := T) (x := x) nd two
      exact ⟨M, a, b, fun z hz => (nomatch hz), d⟩
    | cons y l ih =>
      intro h
      obtain ⟨M, a, b, c, d⟩ := ih fun z hz => h z (List.mem_cons_of_mem _ hz)
      obtain ⟨N, a', b', c', d'⟩ := all y (h y (List.mem_cons_self ..))
      refine ⟨_, a.union a' ⟨x, hx, b, b'⟩, .inl b, fun z hz => ?_, union_less S n1 n2 a a' d d' ⟨x, hx, b, b'⟩⟩
      rcases List.mem_cons.mp hz with e | hz
      · rw [e]
        exact .inr c'
      · exact .inl (c z hz)
  obtain ⟨M, _, _, c, z, hz, n⟩ := grow P fun z hz => hz
  exact n (c z hz)
/-- the parts: of each point all that is with it in an alike set but the whole -/
theorem kids_prime (S : SyT T) (nd : P.Nodup) (two : 2 ≤ P.length) (n1 : ¬ Cutt T true P) (n2 : ¬ Cutt T false P) {Ls : List (List Nat)} (pm : Ls.flatten.Perm P) (cls : ∀ L ∈ Ls, ∃ x ∈ P, ∀ y ∈ P, y ∈ L ↔ Sib T P x y) : Kids T P Ls := by
  have inP : ∀ {L}, L ∈ Ls → ∀ x ∈ L, x ∈ P := fun {L} hL x hx => pm.mem_iff.mp (List.mem_flatten.mpr ⟨L, hL, hx⟩)
  -- the part of any of its points
  have at_ : ∀ {L}, L ∈ Ls → ∀ x ∈ L, ∀ y ∈ P, y ∈ L ↔ Sib T P x y := fun {L} hL x hx y hy => by
    obtain ⟨u, hu, h⟩ := cls L hL
    have ux := (h x (inP hL x hx)).mp hx
    exact (h y hy).trans ⟨fun g => ux.symm.trans S n1 n2 hu g, fun g => ux.trans S n1 n2 (inP hL x hx) g⟩
  refine ⟨pm, fun L hL => ⟨?_, ?_, fun M hM l => ?_⟩, fun S' hS hex => ?_⟩
  · obtain ⟨u, hu, h⟩ := cls L hL
    intro z hz nz a ha b hb ua ub
    exact sib_md S n1 n2 hu z hz (fun k => nz ((h z hz).mpr k)) a ha b hb ((h a ha).mp ua) ((h b hb).mp ub)
  · obtain ⟨u, hu, h⟩ := cls L hL
    exact ⟨u, hu, (h u hu).mpr (Sib.self nd two)⟩
  · obtain ⟨⟨x, hx, xL, xM⟩, ⟨y, hy, yL, yM⟩, z, hz, zM, zL⟩ := l
    exact zL ((at_ hL x xL z hz).mpr ⟨M, hM, xM, zM, y, hy, yM⟩)
  · obtain ⟨x, hx, xS⟩ := hS.ne
    obtain ⟨L, hL, xL⟩ := List.mem_flatten.mp (pm.mem_iff.mpr hx)
    exact ⟨L, hL, fun y hy yS => (at_ hL x xL y hy).mpr ⟨S', hS.md, xS, yS, hex⟩⟩
end
end Ns

/-! Own layer, plain: how many sets of points there are of which any two are tied (or not). -/
namespace Ns
open PySem PySem.Spec PyProof.Rows L2
set_option wf.preprocess false in
/-- how many sets of points, the empty one too, of which any two are e -/
def clN (e : Nat → Nat → Bool) (ps : List Nat) : Nat := match ps with
  | [] => 1
  | x :: r => clN e r + clN e (r.filter (e x))
termination_by ps.length
decreasing_by
  · simp
  · have := List.length_filter_le (e x) r
    simp only [List.length_cons]
    omega
theorem clN_nil (e : Nat → Nat → Bool) : clN e [] = 1 := by unfold clN; rfl
theorem clN_cons (e : Nat → Nat → Bool) (x : Nat) (r : List Nat) : clN e (x :: r) = clN e r + clN e (r.filter (e x)) := by rw [clN]
theorem clN_pos (e : Nat → Nat → Bool) : ∀ (n : Nat) (ps : List Nat), ps.length ≤ n → 1 ≤ clN e ps
  | _, [], _ => by rw [clN_nil]; exact Nat.le_refl _
  | 0, _ :: _, h => absurd h (by simp)
  | n + 1, x :: r, h => by
    rw [clN_cons]
    have := clN_pos e n r (by simpa using h)
    omega
theorem filter_comm2 (p q : Nat → Bool) (l : List Nat) : (l.filter p).filter q = (l.filter q).filter p := by
  rw [List.filter_filter, List.filter_filter]
  exact congrArg (fun f => l.filter f) (funext fun x => Bool.and_comm _ _)
theorem clN_swap {e : Nat → Nat → Bool} (sy : ∀ x y, e x y = e y x) (x y : Nat) (r : List Nat) : clN e (x :: y :: r) = clN e (y :: x :: r) := by
  rw [clN_cons, clN_cons e y, clN_cons, clN_cons e x r]
  cases h : e x y with
  | true =>
    have h2 : e y x = true := by rw [sy]; exact h
    rw [List.filter_cons_of_pos h, List.filter_cons_of_pos h2, clN_cons, clN_cons, filter_comm2]
    omega
  | false =>
    have h2 : e y x = false := by rw [sy]; exact h
    rw [List.filter_cons_of_neg (by rw [h]; decide), List.filter_cons_of_neg (by rw [h2]; decide)]
    omega
theorem clN_perm {e : Nat → Nat → Bool} (sy : ∀ x y, e x y = e y x) : ∀ (n : Nat) {as bs : List Nat}, as.Perm bs → as.length ≤ n → clN e as = clN e bs := by
  intro n
  induction n with
  | zero =>
    intro as bs p h
    have : as = [] := List.length_eq_zero_iff.mp (by omega)
    subst this
    rw [p.symm.eq_nil]
  | succ n ih =>
    intro as bs p
    induction p with
    | nil => intro _; rfl
    | cons x p ih2 =>
      rename_i l1 l2
      intro h
      rw [List.length_cons] at h
      have := List.length_filter_le (e x) l1
      rw [clN_cons, clN_cons, ih p (by omega), ih (p.filter (e x)) (by omega)]
    | swap x y l => intro _; exact clN_swap sy _ _ _
    | trans p1 p2 h1 h2 =>
      intro h
      rw [h1 h, h2 (by rw [← p1.length_eq]; exact h)]
theorem filter_all {p : Nat → Bool} {l : List Nat} (h : ∀ x ∈ l, p x = true) : l.filter p = l := List.filter_eq_self.mpr h
theorem filter_no {p : Nat → Bool} {l : List Nat} (h : ∀ x ∈ l, p x = false) : l.filter p = [] := List.filter_eq_nil_iff.mpr fun x hx => by rw [h x hx]; decide
/-- parts of which any two points of different ones are e -/
theorem clN_mul {e : Nat → Nat → Bool} {B : List Nat} : ∀ (n : Nat) {A : List Nat}, A.length ≤ n → (∀ x ∈ A, ∀ y ∈ B, e x y = true) → clN e (A ++ B) = clN e A * clN e B
  | _, [], _, _ => by rw [List.nil_append, clN_nil, Nat.one_mul]
  | 0, _ :: _, h, _ => absurd h (by simp)
  | n + 1, x :: r, h, hx => by
    have hr : r.length ≤ n := by simpa using h
    have := List.length_filter_le (e x) r
    rw [List.cons_append, clN_cons, List.filter_append, filter_all (hx x (List.mem_cons_self ..)), clN_mul n hr fun y hy => hx y (List.mem_cons_of_mem _ hy), clN_mul n (by omega) fun y hy => hx y (List.mem_cons_of_mem _ (List.mem_filter.mp hy).1), clN_cons, Nat.add_mul]
theorem clN_add {e : Nat → Nat → Bool} {B : List Nat} : ∀ (n : Nat) {A : List Nat}, A.length ≤ n → (∀ x ∈ A, ∀ y ∈ B, e x y = false) → clN e (A ++ B) + 1 = clN e A + clN e B
  | _, [], _, _ => by rw [List.nil_append, clN_nil, Nat.add_comm]
  | 0, _ :: _, h, _ => absurd h (by simp)
  | n + 1, x :: r, h, hx => by
    have hr : r.length ≤ n := by simpa using h
    have h1 := clN_add n hr fun y hy => hx y (List.mem_cons_of_mem _ hy)
    rw [List.cons_append, clN_cons, List.filter_append, filter_no (hx x (List.mem_cons_self ..)), List.append_nil, clN_cons]
    omega
theorem clN_sum {e : Nat → Nat → Bool} : ∀ {Ls : List (List Nat)}, Ls.Pairwise (fun A B => ∀ x ∈ A, ∀ y ∈ B, e x y = false) → clN e Ls.flatten = 1 + (Ls.map fun L => clN e L - 1).sum
  | [], _ => by rw [List.flatten_nil, clN_nil]; rfl
  | A :: r, h => by
    obtain ⟨h1, h2⟩ := List.pairwise_cons.mp h
    have ih := clN_sum h2
    have := clN_add (e := e) A.length (A := A) (B := r.flatten) (Nat.le_refl _) fun x hx y hy => by
      obtain ⟨L, hL, hy⟩ := List.mem_flatten.mp hy
      exact h1 L hL x hx y hy
    have := clN_pos e A.length A (Nat.le_refl _)
    rw [List.flatten_cons, List.map_cons, List.sum_cons]
    omega
theorem clN_prod {e : Nat → Nat → Bool} : ∀ {Ls : List (List Nat)}, Ls.Pairwise (fun A B => ∀ x ∈ A, ∀ y ∈ B, e x y = true) → clN e Ls.flatten = (Ls.map fun L => clN e L).foldr (· * ·) 1
  | [], _ => by rw [List.flatten_nil, clN_nil]; rfl
  | A :: r, h => by
    obtain ⟨h1, h2⟩ := List.pairwise_cons.mp h
    rw [List.flatten_cons, List.map_cons, List.foldr_cons, ← clN_prod h2]
    exact clN_mul (e := e) A.length (Nat.le_refl _) fun x hx y hy => by
      obtain ⟨L, hL, hy⟩ := List.mem_flatten.mp hy
      exact h1 L hL x hx y hy
theorem clN_le (e : Nat → Nat → Bool) : ∀ (n : Nat) (ps : List Nat), ps.length ≤ n → clN e ps ≤ 2 ^ ps.length
  | _, [], _ => by rw [clN_nil]; exact Nat.le_refl _
  | 0, _ :: _, h => absurd h (by simp)
  | n + 1, x :: r, h => by
    have hr : r.length ≤ n := by simpa using h
    have hf := List.length_filter_le (e x) r
    have h1 := clN_le e n r hr
    have h2 := Nat.le_trans (clN_le e n (r.filter (e x)) (by omega)) (Nat.pow_le_pow_right (by decide) hf)
    rw [clN_cons, List.length_cons, Nat.pow_succ]
    omega
end Ns

/-! Own layer: arrows that force one another, in plain Lean: what is forced class by class goes through. -/
namespace Ns
/-- arrows -/
abbrev Ar := Nat → Nat → Prop
/-- one arrow forces another, at once -/
inductive Frc (E : Ar) : Nat → Nat → Nat → Nat → Prop
  | head {a b c : Nat} : E a b → E a c → ¬ E b c → b ≠ c → Frc E a b a c
  | tail {a b c : Nat} : E a b → E c b → ¬ E a c → a ≠ c → Frc E a b c b
/-- again and again -/
inductive Cls (E : Ar) (a b : Nat) : Nat → Nat → Prop
  | self : E a b → Cls E a b a b
  | step {x y u v : Nat} : Cls E a b x y → Frc E x y u v → Cls E a b u v
structure Und (E : Ar) : Prop where
  sy : ∀ {x y}, E x y → E y x
  ir : ∀ {x}, ¬ E x x
section
variable {E : Ar} (U : Und E)
include U
theorem Frc.symm {a b c d : Nat} (h : Frc E a b c d) : Frc E c d a b := by
  cases h with
  | head h1 h2 h3 h4 => exact .head h2 h1 (fun z => h3 (U.sy z)) fun z => h4 z.symm
  | tail h1 h2 h3 h4 => exact .tail h2 h1 (fun z => h3 (U.sy z)) fun z => h4 z.symm
theorem Frc.rev {a b c d : Nat} (h : Frc E a b c d) : Frc E b a d c := by
  cases h with
  | head h1 h2 h3 h4 => exact .tail (U.sy h1) (U.sy h2) h3 h4
  | tail h1 h2 h3 h4 => exact .head (U.sy h1) (U.sy h2) h3 h4
omit U in
theorem Cls.arr {a b x y : Nat} (h : Cls E a b x y) : E x y := by
  cases h with
  | self h => exact h
  | step _ f => cases f <;> assumption
omit U in
theorem Cls.base {a b x y : Nat} (h : Cls E a b x y) : E a b := by
  induction h with
  | self h => exact h
  | step _ _ ih => exact ih
omit U in
theorem Cls.trans {a b x y u v : Nat} (h : Cls E a b x y) (g : Cls E x y u v) : Cls E a b u v := by
  induction g with
  | self _ => exact h
  | step _ f ih => exact .step ih f
theorem Cls.symm {a b x y : Nat} (h : Cls E a b x y) : Cls E x y a b := by
  induction h with
  | self h => exact .self h
  | step h f ih =>
    have f2 := f.symm U
    have e : E _ _ := (Cls.step h f).arr
    exact (Cls.step (.self e) f2).trans ih
theorem Cls.rev {a b x y : Nat} (h : Cls E a b x y) : Cls E b a y x := by
  induction h with
  | self h => exact .self (U.sy h)
  | step _ f ih => exact .step ih (f.rev U)
/-- the lemma of triangles: bc in A, ac in B, ab in C -/
theorem tri {a b c : Nat} (hab : E a b) (hac : E a c) (hbc : E b c) (h1 : ¬ Cls E b c a c) (h2 : ¬ Cls E b c b a) {x y : Nat} (h : Cls E b c x y) : Cls E a b a x ∧ Cls E a c a y := by
  induction h with
  | self _ => exact ⟨.self hab, .self hac⟩
  | @step x y u v hxy f ih =>
    obtain ⟨i1, i2⟩ := ih
    have hax := i1.arr
    have hay := i2.arr
    cases f with
    | head g1 g2 g3 g4 =>
      -- x y, x v with y v apart
      refine ⟨i1, ?_⟩
      have hav : E a v := by
        apply Classical.byContradiction
        intro hn
        have hne : v ≠ a := fun e => by
          -- x a: the arrow of A touches a
          subst e
          exact h2 (((Cls.step hxy (.head g1 g2 g3 g4)).trans ((i1.rev U).symm U)))
        have f2 : Frc E x v x a := .head g2 (U.sy hax) (fun z => hn (U.sy z)) hne
        exact h2 ((Cls.step (Cls.step hxy (.head g1 g2 g3 g4)) f2).trans ((i1.rev U).symm U))
      exact .step i2 (.head hay hav g3 g4)
    | tail g1 g2 g3 g4 =>
      refine ⟨?_, i2⟩
      have hau : E a u := by
        apply Classical.byContradiction
        intro hn
        have hne : u ≠ a := fun e => by
          subst e
          exact h1 ((Cls.step hxy (.tail g1 g2 g3 g4)).trans (i2.symm U))
        have f2 : Frc E u y a y := .tail g2 hay (fun z => hn (U.sy z)) hne
        exact h1 ((Cls.step (Cls.step hxy (.tail g1 g2 g3 g4)) f2).trans (i2.symm U))
      exact .step i1 (.head hax hau g3 g4)
/-- no arrow of A touches a -/
theorem tri_off {a b c : Nat} (hab : E a b) (hac : E a c) (hbc : E b c) (h1 : ¬ Cls E b c a c) (h2 : ¬ Cls E b c b a) {x y : Nat} (h : Cls E b c x y) : x ≠ a ∧ y ≠ a := by
  obtain ⟨i1, i2⟩ := tri U hab hac hbc h1 h2 h
  exact ⟨fun e => U.ir (e ▸ i1.arr), fun e => U.ir (e ▸ i2.arr)⟩
end
/-- no class holds an arrow and the same one turned round -/
def NoTurn (E : Ar) : Prop := ∀ a b, E a b → ¬ Cls E a b b a
/-- such a class goes through -/
theorem cls_trans {E : Ar} (U : Und E) (N : NoTurn E) {p q a b c : Nat} (h1 : Cls E p q a b) (h2 : Cls E p q b c) : Cls E p q a c := by
  have hbc : Cls E b c a b := (h2.symm U).trans h1
  have hac : E a c := by
    apply Classical.byContradiction
    intro hn
    have hne : a ≠ c := fun e => by
      subst e
      exact N _ _ h1.arr ((h1.symm U).trans h2)
    -- a b and c b: tails a, c apart
    have f : Frc E a b c b := .tail h1.arr (U.sy h2.arr) hn hne
    exact N _ _ h2.arr ((Cls.step hbc f))
  apply Classical.byContradiction
  intro hn
  have k1 : ¬ Cls E b c a c := fun z => hn (h2.trans z)
  have k2 : ¬ Cls E b c b a := fun z => N _ _ h1.arr ((h1.symm U).trans (h2.trans z))
  exact (tri_off U h1.arr hac h2.arr k1 k2 hbc).1 rfl
/-- what is left without a class and the class turned round -/
def cutA (E : Ar) (p q : Nat) : Ar := fun x y => E x y ∧ ¬ Cls E p q x y ∧ ¬ Cls E p q y x
theorem cutA_und {E : Ar} (U : Und E) (p q : Nat) : Und (cutA E p q) := ⟨fun h => ⟨U.sy h.1, h.2.2, h.2.1⟩, fun h => U.ir h.1⟩
/-- arrows, one for each tie, that go through -/
structure TO (E F : Ar) : Prop where
  sub : ∀ {x y}, F x y → E x y
  all : ∀ {x y}, E x y → F x y ∨ F y x
  one : ∀ {x y}, F x y → ¬ F y x
  go : ∀ {x y z}, F x y → F y z → F x z
/-- a class, and arrows of the rest -/
theorem to_add {E F : Ar} (U : Und E) (N : NoTurn E) {p q : Nat} (O : TO (cutA E p q) F) : TO E fun x y => Cls E p q x y ∨ F x y := by
  have turn : ∀ {x y}, Cls E p q x y → ¬ Cls E p q y x := fun h g => N _ _ h.arr ((h.symm U).trans g)
  have off : ∀ {x y}, F x y → ¬ Cls E p q x y ∧ ¬ Cls E p q y x := fun h => (O.sub h).2
  refine ⟨fun h => h.elim (fun h => h.arr) fun h => (O.sub h).1, fun {x y} h => ?_, fun {x y} h g => ?_, fun {x y z} h g => ?_⟩
  · by_cases c : Cls E p q x y
    · exact .inl (.inl c)
    · by_cases d : Cls E p q y x
      · exact .inr (.inl d)
      · rcases O.all (show cutA E p q x y from ⟨h, c, d⟩) with h | h
        · exact .inl (.inr h)
        · exact .inr (.inr h)
  · rcases h with h | h <;> rcases g with g | g
    · exact turn h g
    · exact (off g).2 h
    · exact (off h).2 g
    · exact O.one h g
  · rcases h with h | h <;> rcases g with g | g
    · exact .inl (cls_trans U N h g)
    · -- xy in the class, yz of the rest
      have hyz := (O.sub g).1
      have hxz : E x z := by
        apply Classical.byContradiction
        intro hn
        have hne : x ≠ z := fun e => by
          subst e
          exact (off g).2 h
        exact (off g).2 (.step h (.tail h.arr (U.sy hyz) hn hne))
      by_cases c : Cls E p q x z
      · exact .inl c
      · by_cases d : Cls E p q z x
        · exact absurd (cls_trans U N d h) (off g).2
        · rcases O.all (show cutA E p q x z from ⟨hxz, c, d⟩) with k | k
          · exact .inr k
          · exact absurd h (off (O.go g k)).2
    · have hxy := (O.sub h).1
      have hxz : E x z := by
        apply Classical.byContradiction
        intro hn
        have hne : z ≠ x := fun e => by
          subst e
          exact (off h).2 g
        exact (off h).2 (.step g (.head g.arr (U.sy hxy) (fun w => hn (U.sy w)) hne))
      by_cases c : Cls E p q x z
      · exact .inl c
      · by_cases d : Cls E p q z x
        · exact absurd (cls_trans U N g d) (off h).2
        · rcases O.all (show cutA E p q x z from ⟨hxz, c, d⟩) with k | k
          · exact .inr k
          · exact absurd g (off (O.go k h)).2
    · exact .inr (O.go h g)
/-- over a triangle with one side cut and the two others unlike: how their arrows stand to all cut ones -/
theorem tri_col {E : Ar} (U : Und E) {p q x0 u v : Nat} (hA : Cls E p q u v) (hu : cutA E p q x0 u) (hv : cutA E p q x0 v) (ne : ¬ Cls E x0 u x0 v) {r s : Nat} (h : Cls E x0 u r s ∨ Cls E x0 v r s) :
    (∀ x y, Cls E p q x y → Cls E x0 u r x ∧ Cls E x0 v r y) ∧ ∃ w, Cls E p q s w ∨ Cls E p q w s := by
  have eA : ∀ {x y}, Cls E p q x y → Cls E u v x y := fun h => (hA.symm U).trans h
  have ne2 : ¬ Cls E x0 v x0 u := fun z => ne (z.symm U)
  have offC : ∀ {x y}, Cls E x0 u x y → ¬ Cls E p q x y ∧ ¬ Cls E p q y x := fun h => ⟨fun z => hu.2.1 (z.trans (h.symm U)), fun z => hu.2.2 (z.trans ((h.symm U).rev U))⟩
  have offB : ∀ {x y}, Cls E x0 v x y → ¬ Cls E p q x y ∧ ¬ Cls E p q y x := fun h => ⟨fun z => hv.2.1 (z.trans (h.symm U)), fun z => hv.2.2 (z.trans ((h.symm U).rev U))⟩
  rcases h with h | h
  · have g := tri U (a := v) (b := x0) (c := u) (U.sy hv.1) (U.sy hA.arr) hu.1 (fun z => (offC z).2 hA) ne h
    have h1 : Cls E x0 v r v := g.1.rev U
    have h2 : Cls E p q s v := hA.trans (g.2.rev U)
    refine ⟨fun x y hxy => ?_, v, .inl h2⟩
    have k := tri U (a := r) (b := s) (c := v) h.arr h1.arr h2.arr (fun z => (offB h1).1 (h2.trans z)) (fun z => (offC h).2 (h2.trans z)) ((h2.symm U).trans hxy)
    exact ⟨h.trans k.1, h1.trans k.2⟩
  · have g := tri U (a := u) (b := x0) (c := v) (U.sy hu.1) hA.arr hv.1 (fun z => (offB z).1 hA) ne2 h
    have h1 : Cls E x0 u r u := g.1.rev U
    have h2 : Cls E p q u s := hA.trans g.2
    refine ⟨fun x y hxy => ?_, u, .inr h2⟩
    have k := tri U (a := r) (b := u) (c := s) h1.arr h.arr h2.arr (fun z => (offB h).1 (h2.trans z)) (fun z => (offC h1).2 (h2.trans z)) ((h2.symm U).trans hxy)
    exact ⟨h1.trans k.1, h.trans k.2⟩
/-- the arrow lies over a triangle with one side cut and the two others unlike -/
def Col (E : Ar) (p q a b : Nat) : Prop := ∃ x0 u v, Cls E p q u v ∧ cutA E p q x0 u ∧ cutA E p q x0 v ∧ ¬ Cls E x0 u x0 v ∧ (Cls E x0 u a b ∨ Cls E x0 v a b)
theorem cut_or {E : Ar} {p q x y : Nat} (h : ¬ cutA E p q x y) (e : E x y) : Cls E p q x y ∨ Cls E p q y x := by
  apply Classical.byContradiction
  intro hn
  exact h ⟨e, fun z => hn (.inl z), fun z => hn (.inr z)⟩
theorem col_turn {E : Ar} (U : Und E) (N : NoTurn E) {p q a b : Nat} (h : Col E p q a b) : ¬ Cls (cutA E p q) a b b a := by
  obtain ⟨x0, u, v, hA, hu, hv, ne, h0⟩ := h
  have stay : ∀ {x y}, Cls (cutA E p q) a b x y → Cls E x0 u x y ∨ Cls E x0 v x y := fun g => by
    induction g with
    | self _ => exact h0
    | @step r s r2 s2 _ f ih =>
      obtain ⟨k1, w, k2⟩ := tri_col U hA hu hv ne ih
      cases f with
      | head g1 g2 g3 g4 =>
        by_cases e : E s s2
        · rcases cut_or g3 e with c | c
          · exact .inr (k1 _ _ c).2
          · exact .inl (k1 _ _ c).1
        · exact ih.imp (fun i => .step i (.head g1.1 g2.1 e g4)) fun i => .step i (.head g1.1 g2.1 e g4)
      | tail g1 g2 g3 g4 =>
        by_cases e : E r r2
        · rcases cut_or g3 e with c | c
          · exact absurd (k1 _ _ c).1.arr U.ir
          · exact absurd (k1 _ _ c).2.arr U.ir
        · exact ih.imp (fun i => .step i (.tail g1.1 g2.1 e g4)) fun i => .step i (.tail g1.1 g2.1 e g4)
  intro g
  obtain ⟨k1, w, k2⟩ := tri_col U hA hu hv ne h0
  obtain ⟨m1, _⟩ := tri_col U hA hu hv ne (stay g)
  rcases k2 with c | c
  · exact absurd (m1 _ _ c).1.arr U.ir
  · exact absurd (m1 _ _ c).2.arr U.ir
/-- what is left turns no arrow either -/
theorem cut_turn {E : Ar} (U : Und E) (N : NoTurn E) (p q : Nat) : NoTurn (cutA E p q) := by
  intro a b hab g
  have U2 := cutA_und U p q
  by_cases c1 : Col E p q a b
  · exact col_turn U N c1 g
  by_cases c2 : Col E p q b a
  · exact col_turn U N c2 (g.rev U2)
  have stay : ∀ {x y}, Cls (cutA E p q) a b x y → Cls E a b x y := fun g => by
    induction g with
    | self h => exact .self h.1
    | @step r s r2 s2 _ f ih =>
      cases f with
      | head g1 g2 g3 g4 =>
        by_cases e : E s s2
        · apply Classical.byContradiction
          intro hn
          have hne : ¬ Cls E r s r s2 := fun w => hn (ih.trans w)
          have back := ih.symm U
          rcases cut_or g3 e with c | c
          · exact c1 ⟨r, s, s2, c, g1, g2, hne, .inl back⟩
          · exact c1 ⟨r, s2, s, c, g2, g1, fun w => hne (w.symm U), .inr back⟩
        · exact .step ih (.head g1.1 g2.1 e g4)
      | tail g1 g2 g3 g4 =>
        by_cases e : E r r2
        · apply Classical.byContradiction
          intro hn
          have hne : ¬ Cls E s r s r2 := fun w => hn (ih.trans (w.rev U))
          have back := (ih.rev U).symm U
          rcases cut_or g3 e with c | c
          · exact c2 ⟨s, r, r2, c, U2.sy g1, U2.sy g2, hne, .inl back⟩
          · exact c2 ⟨s, r2, r, c, U2.sy g2, U2.sy g1, fun w => hne (w.symm U), .inr back⟩
        · exact .step ih (.tail g1.1 g2.1 e g4)
  exact N _ _ hab.1 (stay g)
end Ns

/-! Own layer, plain: a net in the place of a point. -/
namespace Ns
open PySem PySem.Spec PyProof.Rows L2
/-! ### arrows: no turning row, then arrows that go through -/
theorem noturn_to (L : List (Nat × Nat)) : ∀ (n : Nat) {E : Ar}, Und E → (∀ x y, E x y → (x, y) ∈ L) → NoTurn E → (L.filter fun p => @decide (E p.1 p.2) (Classical.propDecidable _)).length ≤ n → ∃ F, TO E F := by
  intro n
  induction n with
  | zero =>
    intro E U fin N h
    have no : ∀ x y, ¬ E x y := fun x y e => by
      have : (x, y) ∈ L.filter fun p => @decide (E p.1 p.2) (Classical.propDecidable _) := List.mem_filter.mpr ⟨fin x y e, (@decide_eq_true_iff _ (Classical.propDecidable _)).mpr e⟩
      have := List.length_pos_of_mem this
      omega
    exact ⟨fun _ _ => False, fun h => h.elim, fun h => absurd h (no _ _), fun h => h.elim, fun h => h.elim⟩
  | succ n ih =>
    intro E U fin N h
    by_cases hex : ∃ p q, E p q
    · obtain ⟨p, q, e⟩ := hex
      have U2 := cutA_und U p q
      obtain ⟨F, O⟩ := ih U2 (fun x y h => fin x y h.1) (cut_turn U N p q) (by
        have sub : (L.filter fun z => @decide (cutA E p q z.1 z.2) (Classical.propDecidable _)) = (L.filter fun z => @decide (E z.1 z.2) (Classical.propDecidable _)).filter fun z => @decide (cutA E p q z.1 z.2) (Classical.propDecidable _) := by
          rw [List.filter_filter]
          refine List.filter_congr fun z _ => ?_
          rw [Bool.eq_iff_iff, Bool.and_eq_true, @decide_eq_true_iff _ (Classical.propDecidable _), @decide_eq_true_iff _ (Classical.propDecidable _)]
          exact ⟨fun h => ⟨h, h.1⟩, fun h => h.1⟩
        have lt : ((L.filter fun z => @decide (E z.1 z.2) (Classical.propDecidable _)).filter fun z => @decide (cutA E p q z.1 z.2) (Classical.propDecidable _)).length < (L.filter fun z => @decide (E z.1 z.2) (Classical.propDecidable _)).length := by
          refine Nat.lt_of_le_of_ne (List.length_filter_le _ _) fun g => ?_
          have e2 := List.filter_sublist.eq_of_length g
          have hm : (p, q) ∈ L.filter fun z => @decide (E z.1 z.2) (Classical.propDecidable _) := List.mem_filter.mpr ⟨fin p q e, (@decide_eq_true_iff _ (Classical.propDecidable _)).mpr e⟩
          rw [← e2] at hm
          have := (@decide_eq_true_iff _ (Classical.propDecidable _)).mp (List.mem_filter.mp hm).2
          exact this.2.1 (.self e)
        rw [sub]
        omega)
      exact ⟨_, to_add U N O⟩
    · have no : ∀ x y, ¬ E x y := fun x y e => hex ⟨x, y, e⟩
      exact ⟨fun _ _ => False, fun h => h.elim, fun h => absurd h (no _ _), fun h => h.elim, fun h => h.elim⟩
/-- arrows that go through are kept by every force: no row turns -/
theorem to_keepC {E F : Ar} (U : Und E) (O : TO E F) {a b x y : Nat} (h : Cls E a b x y) (f : F a b) : F x y := by
  induction h with
  | self => exact f
  | step h1 h2 ih =>
    cases h2 with
    | head e1 e2 n ne =>
      rename_i p q r
      rcases O.all e2 with g | g
      · exact g
      · exact absurd (U.sy (O.sub (O.go g ih))) n
    | tail e1 e2 n ne =>
      rename_i p q r
      rcases O.all e2 with g | g
      · exact g
      · exact absurd (O.sub (O.go ih g)) n
theorem to_noturnC {E F : Ar} (U : Und E) (O : TO E F) : NoTurn E := fun a b hab h => by
  rcases O.all hab with hf | hf
  · exact O.one hf (to_keepC U O h hf)
  · exact O.one hf (to_keepC U O (h.symm U) hf)
theorem TO.pull {E F E' : Ar} (O : TO E F) (D : Nat → Prop) (f : Nat → Nat) (dom : ∀ x y, E' x y → D x ∧ D y) (h : ∀ x y, D x → D y → (E' x y ↔ E (f x) (f y))) : TO E' fun x y => D x ∧ D y ∧ F (f x) (f y) :=
  ⟨fun {x y} k => (h x y k.1 k.2.1).mpr (O.sub k.2.2), fun {x y} e => by
    obtain ⟨dx, dy⟩ := dom x y e
    rcases O.all ((h x y dx dy).mp e) with g | g
    · exact .inl ⟨dx, dy, g⟩
    · exact .inr ⟨dy, dx, g⟩, fun k l => O.one k.2.2 l.2.2, fun k l => ⟨k.1, l.2.1, O.go k.2.2 l.2.2⟩⟩
/-! ### a net in the place of a point -/
def nmS (p i : Nat) : Nat := if i < p then i else i + 1
def umS (p x : Nat) : Nat := if x < p then x else x - 1
theorem nmS_ne (p i : Nat) : nmS p i ≠ p := by unfold nmS; split <;> omega
theorem nmS_um {p x : Nat} (h : x ≠ p) : nmS p (umS p x) = x := by
  unfold nmS umS
  by_cases c : x < p
  · rw [if_pos c, if_pos c]
  · rw [if_neg c, if_neg (by omega)]
    omega
theorem umS_nm (p i : Nat) : umS p (nmS p i) = i := by
  unfold nmS umS
  by_cases c : i < p
  · rw [if_pos c, if_pos c]
  · rw [if_neg c, if_neg (by omega)]
    omega
theorem nmS_lt {p i n : Nat} (hp : p < n) (h : i < n - 1) : nmS p i < n := by unfold nmS; split <;> omega
theorem umS_lt {p x n : Nat} (hp : p < n) (h : x < n) (ne : x ≠ p) : umS p x < n - 1 := by unfold umS; split <;> omega
theorem nmS_inj {p i j : Nat} (h : nmS p i = nmS p j) : i = j := by rw [← umS_nm p i, h, umS_nm]
/-- the point of a for which one stands -/
def psS (f p u : Nat) : Nat := if u < f then nmS p u else p
structure SubN (an bn p : Nat) (Ta Tb Tn : Tm) : Prop where
  pl : p < an
  b1 : 1 ≤ bn
  Sa : SyT Ta
  Sb : SyT Tb
  Sn : SyT Tn
  da : ∀ x y, Ta x y = true → x < an ∧ y < an
  db : ∀ x y, Tb x y = true → x < bn ∧ y < bn
  dn : ∀ x y, Tn x y = true → x < an - 1 + bn ∧ y < an - 1 + bn
  out : ∀ u v, u < an - 1 + bn → v < an - 1 + bn → ¬ (an - 1 ≤ u ∧ an - 1 ≤ v) → Tn u v = Ta (psS (an - 1) p u) (psS (an - 1) p v)
  inn : ∀ z w, z < bn → w < bn → Tn (an - 1 + z) (an - 1 + w) = Tb z w
section
variable {an bn p : Nat} {Ta Tb Tn : Tm} (X : SubN an bn p Ta Tb Tn)
include X
theorem SubN.ps_lt {u : Nat} (h : u < an - 1 + bn) : psS (an - 1) p u < an := by
  have := X.pl
  unfold psS
  split
  · exact nmS_lt this (by assumption)
  · exact this
/-- the way back: a point's own one, the first one of those put in for p -/
theorem SubN.ph (x : Nat) (hx : x < an) : ∃ u, u < an - 1 + bn ∧ psS (an - 1) p u = x ∧ (an - 1 ≤ u → x = p ∧ u = an - 1) := by
  have := X.pl
  have := X.b1
  by_cases e : x = p
  · refine ⟨an - 1, by omega, ?_, fun _ => ⟨e, rfl⟩⟩
    rw [psS, if_neg (by omega), e]
  · refine ⟨umS p x, by have := umS_lt X.pl hx e; omega, ?_, fun h => by have := umS_lt X.pl hx e; omega⟩
    rw [psS, if_pos (umS_lt X.pl hx e), nmS_um e]
theorem SubN.md_in : Md Tn (List.range (an - 1 + bn)) (fun u => an - 1 ≤ u ∧ u < an - 1 + bn) := by
  intro z hz nz a ha b hb ua ub
  have hz := List.mem_range.mp hz
  have zl : z < an - 1 := by omega
  rw [X.out z a hz ua.2 (by omega), X.out z b hz ub.2 (by omega)]
  unfold psS
  rw [if_neg (show ¬ a < an - 1 by omega), if_neg (show ¬ b < an - 1 by omega)]
theorem SubN.md_out {S : Nat → Prop} (h : Md Ta (List.range an) S) : Md Tn (List.range (an - 1 + bn)) (fun u => u < an - 1 + bn ∧ S (psS (an - 1) p u)) := by
  intro z hz nz a ha b hb ua ub
  have hz := List.mem_range.mp hz
  have nzS : ¬ S (psS (an - 1) p z) := fun k => nz ⟨hz, k⟩
  have off : ∀ c, S (psS (an - 1) p c) → ¬ (an - 1 ≤ z ∧ an - 1 ≤ c) := fun c hc k => by
    apply nzS
    unfold psS at hc ⊢
    rw [if_neg (by omega)] at hc ⊢
    exact hc
  rw [X.out z a hz ua.1 (off a ua.2), X.out z b hz ub.1 (off b ub.2)]
  exact h _ (List.mem_range.mpr (X.ps_lt hz)) nzS _ (List.mem_range.mpr (X.ps_lt ua.1)) _ (List.mem_range.mpr (X.ps_lt ub.1)) ua.2 ub.2
/-! arrows -/
theorem SubN.und (T : Tm) (S : SyT T) : Und (fun x y => T x y = true) := ⟨fun {x y} h => by rw [S.sy]; exact h, fun {x} h => by rw [S.ir] at h; cases h⟩
theorem SubN.arrows : NoTurn (fun x y => Tn x y = true) ↔ NoTurn (fun x y => Ta x y = true) ∧ NoTurn (fun x y => Tb x y = true) := by
  have := X.pl
  have := X.b1
  have Ua := X.und Ta X.Sa
  have Ub := X.und Tb X.Sb
  have Un := X.und Tn X.Sn
  let L : Nat → List (Nat × Nat) := fun n => (List.range n).flatMap fun x => (List.range n).map fun y => (x, y)
  have memL : ∀ n x y, x < n → y < n → (x, y) ∈ L n := fun n x y hx hy => List.mem_flatMap.mpr ⟨x, List.mem_range.mpr hx, List.mem_map.mpr ⟨y, List.mem_range.mpr hy, rfl⟩⟩
  constructor
  · intro N
    obtain ⟨F, O⟩ := noturn_to (L (an - 1 + bn)) _ Un (fun x y e => memL _ _ _ (X.dn x y e).1 (X.dn x y e).2) N (Nat.le_refl _)
    refine ⟨?_, ?_⟩
    · let f : Nat → Nat := fun x => if x = p then an - 1 else umS p x
      have pf : ∀ x, x < an → psS (an - 1) p (f x) = x ∧ f x < an - 1 + bn ∧ (an - 1 ≤ f x → x = p) := fun x hx => by
        show psS (an - 1) p (if x = p then an - 1 else umS p x) = x ∧ (if x = p then an - 1 else umS p x) < _ ∧ (an - 1 ≤ (if x = p then an - 1 else umS p x) → x = p)
        by_cases e : x = p
        · rw [if_pos e, psS, if_neg (Nat.lt_irrefl _)]
          exact ⟨e.symm, by omega, fun _ => e⟩
        · rw [if_neg e, psS, if_pos (umS_lt X.pl hx e), nmS_um e]
          exact ⟨rfl, by have := umS_lt X.pl hx e; omega, fun h => by have := umS_lt X.pl hx e; omega⟩
      refine to_noturnC Ua (O.pull (fun x => x < an) f (fun x y e => X.da x y e) fun x y hx hy => ?_)
      obtain ⟨x1, x2, x3⟩ := pf x hx
      obtain ⟨y1, y2, y3⟩ := pf y hy
      by_cases k : an - 1 ≤ f x ∧ an - 1 ≤ f y
      · have ex := x3 k.1
        have ey := y3 k.2
        subst ex
        rw [ey]
        exact ⟨fun h => (by
          have h : Ta x x = true := h
          rw [X.Sa.ir] at h
          cases h), fun h => (by
          have h : Tn (f x) (f x) = true := h
          rw [X.Sn.ir] at h
          cases h)⟩
      · show Ta x y = true ↔ Tn (f x) (f y) = true
        rw [X.out _ _ x2 y2 k, x1, y1]
    · refine to_noturnC Ub (O.pull (fun z => z < bn) (fun z => an - 1 + z) (fun x y e => X.db x y e) fun x y hx hy => ?_)
      show Tb x y = true ↔ Tn (an - 1 + x) (an - 1 + y) = true
      rw [X.inn x y hx hy]
  · rintro ⟨Na, Nb⟩
    obtain ⟨Fa, Oa⟩ := noturn_to (L an) _ Ua (fun x y e => memL _ _ _ (X.da x y e).1 (X.da x y e).2) Na (Nat.le_refl _)
    obtain ⟨Fb, Ob⟩ := noturn_to (L bn) _ Ub (fun x y e => memL _ _ _ (X.db x y e).1 (X.db x y e).2) Nb (Nat.le_refl _)
    let ins : Nat → Prop := fun u => an - 1 ≤ u
    let F : Ar := fun u v => (u < an - 1 + bn ∧ v < an - 1 + bn) ∧ ((ins u ∧ ins v ∧ Fb (u - (an - 1)) (v - (an - 1))) ∨ (¬ (ins u ∧ ins v) ∧ Fa (psS (an - 1) p u) (psS (an - 1) p v)))
    have inE : ∀ u v, u < an - 1 + bn → v < an - 1 + bn → ins u → ins v → Tn u v = Tb (u - (an - 1)) (v - (an - 1)) := fun u v hu hv iu iv => by
      have := X.inn (u - (an - 1)) (v - (an - 1)) (by omega) (by omega)
      rw [show an - 1 + (u - (an - 1)) = u from by have : an - 1 ≤ u := iu; omega, show an - 1 + (v - (an - 1)) = v from by have : an - 1 ≤ v := iv; omega] at this
      exact this
    have psin : ∀ u, ins u → psS (an - 1) p u = p := fun u h => by rw [psS, if_neg (by have : an - 1 ≤ u := h; omega)]
    refine to_noturnC (F := F) Un ⟨?_, ?_, ?_, ?_⟩
    · rintro u v ⟨⟨hu, hv⟩, ⟨iu, iv, h⟩ | ⟨n, h⟩⟩
      · show Tn u v = true
        rw [inE u v hu hv iu iv]
        exact Ob.sub h
      · show Tn u v = true
        rw [X.out u v hu hv n]
        exact Oa.sub h
    · intro u v e
      have e : Tn u v = true := e
      obtain ⟨hu, hv⟩ := X.dn u v e
      by_cases k : ins u ∧ ins v
      · rw [inE u v hu hv k.1 k.2] at e
        rcases Ob.all e with g | g
        · exact .inl ⟨⟨hu, hv⟩, .inl ⟨k.1, k.2, g⟩⟩
        · exact .inr ⟨⟨hv, hu⟩, .inl ⟨k.2, k.1, g⟩⟩
      · rw [X.out u v hu hv k] at e
        rcases Oa.all e with g | g
        · exact .inl ⟨⟨hu, hv⟩, .inr ⟨k, g⟩⟩
        · exact .inr ⟨⟨hv, hu⟩, .inr ⟨fun h => k ⟨h.2, h.1⟩, g⟩⟩
    · rintro u v ⟨_, ⟨iu, iv, h⟩ | ⟨n, h⟩⟩ ⟨_, ⟨iu', iv', h'⟩ | ⟨n', h'⟩⟩
      · exact Ob.one h h'
      · exact n' ⟨iv, iu⟩
      · exact n ⟨iv', iu'⟩
      · exact Oa.one h h'
    · rintro u v w ⟨⟨hu, hv⟩, h1⟩ ⟨⟨_, hw⟩, h2⟩
      refine ⟨⟨hu, hw⟩, ?_⟩
      rcases h1 with ⟨iu, iv, h⟩ | ⟨n, h⟩ <;> rcases h2 with ⟨iv', iw, h'⟩ | ⟨n', h'⟩
      · exact .inl ⟨iu, iw, Ob.go h h'⟩
      · refine .inr ⟨fun k => n' ⟨iv, k.2⟩, ?_⟩
        rw [psin u iu]
        rw [psin v iv] at h'
        exact h'
      · refine .inr ⟨fun k => n ⟨k.1, iv'⟩, ?_⟩
        rw [psin w iw]
        rw [psin v iv'] at h
        exact h
      · by_cases k : ins u ∧ ins w
        · rw [psin u k.1] at h
          rw [psin w k.2] at h'
          exact absurd h' (Oa.one h)
        · exact .inr ⟨k, Oa.go h h'⟩
/-! four in a row -/
theorem SubN.row : P4 Tn (List.range (an - 1 + bn)) ↔ P4 Ta (List.range an) ∨ P4 Tb (List.range bn) := by
  have := X.pl
  have := X.b1
  constructor
  · rintro ⟨a, b, c, d, ha, hb, hc, hd, h1, h2, h3, h4, h5, h6⟩
    have ha := List.mem_range.mp ha
    have hb := List.mem_range.mp hb
    have hc := List.mem_range.mp hc
    have hd := List.mem_range.mp hd
    have sy := X.Sn.sy
    -- z outside tells apart none of those put in
    have uni : ∀ z x y, z < an - 1 → an - 1 ≤ x → x < an - 1 + bn → an - 1 ≤ y → y < an - 1 + bn → Tn z x = Tn z y := fun z x y hz hx hx2 hy hy2 => by
      rw [X.out z x (by omega) hx2 (by omega), X.out z y (by omega) hy2 (by omega)]
      unfold psS
      rw [if_neg (show ¬ x < an - 1 by omega), if_neg (show ¬ y < an - 1 by omega)]
    have bad : ∀ z x y, z < an - 1 → an - 1 ≤ x → x < an - 1 + bn → an - 1 ≤ y → y < an - 1 + bn → Tn z x = true → Tn z y = false → False := fun z x y a1 a2 a3 a4 a5 e1 e2 => by
      rw [uni z x y a1 a2 a3 a4 a5, e2] at e1
      cases e1
    have h1' := h1; have h2' := h2; have h3' := h3; have h4' := h4; have h5' := h5; have h6' := h6
    rw [sy] at h1' h2' h3' h4' h5' h6'
    by_cases ia : an - 1 ≤ a <;> by_cases ib : an - 1 ≤ b <;> by_cases ic : an - 1 ≤ c <;> by_cases id : an - 1 ≤ d
    · right
      refine ⟨a - (an - 1), b - (an - 1), c - (an - 1), d - (an - 1), List.mem_range.mpr (by omega), List.mem_range.mpr (by omega), List.mem_range.mpr (by omega), List.mem_range.mpr (by omega), ?_⟩
      have e : ∀ x y, an - 1 ≤ x → x < an - 1 + bn → an - 1 ≤ y → y < an - 1 + bn → Tb (x - (an - 1)) (y - (an - 1)) = Tn x y := fun x y a1 a2 a3 a4 => by
        have := X.inn (x - (an - 1)) (y - (an - 1)) (by omega) (by omega)
        rw [show an - 1 + (x - (an - 1)) = x by omega, show an - 1 + (y - (an - 1)) = y by omega] at this
        exact this.symm
      rw [e a b ia ha ib hb, e b c ib hb ic hc, e c d ic hc id hd, e a c ia ha ic hc, e b d ib hb id hd, e a d ia ha id hd]
      exact ⟨h1, h2, h3, h4, h5, h6⟩
    all_goals first
      | (exfalso; exact bad d c b (by omega) (by omega) hc (by omega) hb h3' h5')
      | (exfalso; exact bad a b c (by omega) (by omega) hb (by omega) hc h1 h4)
      | (exfalso; exact bad c b a (by omega) (by omega) hb (by omega) ha h2' h4')
      | (exfalso; exact bad b c d (by omega) (by omega) hc (by omega) hd h2 h5)
      | (exfalso; exact bad b a d (by omega) (by omega) ha (by omega) hd h1' h5)
      | (exfalso; exact bad c d a (by omega) (by omega) hd (by omega) ha h3 h4')
      | (exfalso; exact bad d c a (by omega) (by omega) hc (by omega) ha h3' h6')
      | (exfalso; exact bad a b d (by omega) (by omega) hb (by omega) hd h1 h6)
      | skip
    all_goals
      left
      refine ⟨psS (an - 1) p a, psS (an - 1) p b, psS (an - 1) p c, psS (an - 1) p d, List.mem_range.mpr (X.ps_lt ha), List.mem_range.mpr (X.ps_lt hb), List.mem_range.mpr (X.ps_lt hc), List.mem_range.mpr (X.ps_lt hd), ?_⟩
      rw [← X.out a b ha hb (by omega), ← X.out b c hb hc (by omega), ← X.out c d hc hd (by omega), ← X.out a c ha hc (by omega), ← X.out b d hb hd (by omega), ← X.out a d ha hd (by omega)]
      exact ⟨h1, h2, h3, h4, h5, h6⟩
  · rintro (⟨a, b, c, d, ha, hb, hc, hd, h1, h2, h3, h4, h5, h6⟩ | ⟨a, b, c, d, ha, hb, hc, hd, h1, h2, h3, h4, h5, h6⟩)
    · obtain ⟨a', a1, a2, a3⟩ := X.ph a (List.mem_range.mp ha)
      obtain ⟨b', b1, b2, b3⟩ := X.ph b (List.mem_range.mp hb)
      obtain ⟨c', c1, c2, c3⟩ := X.ph c (List.mem_range.mp hc)
      obtain ⟨d', d1, d2, d3⟩ := X.ph d (List.mem_range.mp hd)
      have ir := X.Sa.ir
      have sy := X.Sa.sy
      have eq : ∀ {x y x' y'}, x' < an - 1 + bn → y' < an - 1 + bn → psS (an - 1) p x' = x → psS (an - 1) p y' = y → (an - 1 ≤ x' → x = p ∧ x' = an - 1) → (an - 1 ≤ y' → y = p ∧ y' = an - 1) → Tn x' y' = Ta x y := fun {x y x' y'} hx hy ex ey kx ky => by
        by_cases k : an - 1 ≤ x' ∧ an - 1 ≤ y'
        · obtain ⟨p1, p2⟩ := kx k.1
          obtain ⟨q1, q2⟩ := ky k.2
          rw [p1, q1, p2, q2, X.Sn.ir, ir]
        · rw [X.out x' y' hx hy k, ex, ey]
      refine ⟨a', b', c', d', List.mem_range.mpr a1, List.mem_range.mpr b1, List.mem_range.mpr c1, List.mem_range.mpr d1, ?_⟩
      rw [eq a1 b1 a2 b2 a3 b3, eq b1 c1 b2 c2 b3 c3, eq c1 d1 c2 d2 c3 d3, eq a1 c1 a2 c2 a3 c3, eq b1 d1 b2 d2 b3 d3, eq a1 d1 a2 d2 a3 d3]
      exact ⟨h1, h2, h3, h4, h5, h6⟩
    · have ha := List.mem_range.mp ha
      have hb := List.mem_range.mp hb
      have hc := List.mem_range.mp hc
      have hd := List.mem_range.mp hd
      refine ⟨an - 1 + a, an - 1 + b, an - 1 + c, an - 1 + d, List.mem_range.mpr (by omega), List.mem_range.mpr (by omega), List.mem_range.mpr (by omega), List.mem_range.mpr (by omega), ?_⟩
      rw [X.inn a b ha hb, X.inn b c hb hc, X.inn c d hc hd, X.inn a c ha hc, X.inn b d hb hd, X.inn a d ha hd]
      exact ⟨h1, h2, h3, h4, h5, h6⟩
end
/-! how many -/
theorem clN_congr {e e' : Nat → Nat → Bool} : ∀ (n : Nat) (L : List Nat), L.length ≤ n → (∀ x ∈ L, ∀ y ∈ L, e x y = e' x y) → clN e L = clN e' L
  | _, [], _, _ => by rw [clN_nil, clN_nil]
  | 0, _ :: _, h, _ => absurd h (by simp)
  | n + 1, x :: r, h, hx => by
    rw [List.length_cons] at h
    have hf := List.length_filter_le (e x) r
    have ef : r.filter (e x) = r.filter (e' x) := List.filter_congr fun y hy => hx x (List.mem_cons_self ..) y (List.mem_cons_of_mem _ hy)
    rw [clN_cons, clN_cons, clN_congr n r (by omega) (fun u hu v hv => hx u (List.mem_cons_of_mem _ hu) v (List.mem_cons_of_mem _ hv)), clN_congr (e := e) (e' := e') n (r.filter (e x)) (by omega) (fun u hu v hv => hx u (List.mem_cons_of_mem _ (List.mem_filter.mp hu).1) v (List.mem_cons_of_mem _ (List.mem_filter.mp hv).1)), ef]
theorem clN_map {e : Nat → Nat → Bool} (g : Nat → Nat) : ∀ (n : Nat) (L : List Nat), L.length ≤ n → clN e (L.map g) = clN (fun x y => e (g x) (g y)) L
  | _, [], _ => by rw [List.map_nil, clN_nil, clN_nil]
  | 0, _ :: _, h => absurd h (by simp)
  | n + 1, x :: r, h => by
    rw [List.length_cons] at h
    have hf := List.length_filter_le (fun y => e (g x) (g y)) r
    rw [List.map_cons, clN_cons, clN_cons, clN_map g n r (by omega), List.filter_map, show (e (g x) ∘ g) = fun y => e (g x) (g y) from rfl, clN_map g n (r.filter fun y => e (g x) (g y)) (by omega)]
/-- points that all stand alike to the others -/
theorem clN_alike {e : Nat → Nat → Bool} {q : Nat → Bool} : ∀ (n : Nat) (M old : List Nat), M.length ≤ n → (∀ m ∈ M, ∀ y ∈ old, e m y = q y) → clN e (M ++ old) + clN e (old.filter q) = clN e old + clN e M * clN e (old.filter q)
  | _, [], old, _, _ => by
    rw [List.nil_append, clN_nil, Nat.one_mul]
  | 0, _ :: _, _, h, _ => absurd h (by simp)
  | n + 1, m :: M, old, h, hq => by
    rw [List.length_cons] at h
    have hf := List.length_filter_le (e m) M
    have ih := clN_alike (e := e) (q := q) n M old (by omega) fun m' hm' => hq m' (List.mem_cons_of_mem _ hm')
    have eo : old.filter (e m) = old.filter q := List.filter_congr fun y hy => hq m (List.mem_cons_self ..) y hy
    have mul := clN_mul (e := e) (B := old.filter q) _ (A := M.filter (e m)) (Nat.le_refl _) fun x hx y hy => by
      obtain ⟨y1, y2⟩ := List.mem_filter.mp hy
      rw [hq x (List.mem_cons_of_mem _ (List.mem_filter.mp hx).1) y y1]
      exact y2
    rw [List.cons_append, clN_cons, List.filter_append, eo, mul, clN_cons, Nat.add_mul]
    omega
section
variable {an bn p : Nat} {Ta Tb Tn : Tm} (X : SubN an bn p Ta Tb Tn)
include X
/-- those without the point, and those with it once for each of b's but the one without points -/
theorem SubN.count {Td : Tm} (hd : ∀ i j, i < an - 1 → j < an - 1 → Td i j = Ta (nmS p i) (nmS p j)) (k : Bool) :
    clN (fun x y => Td x y == k) (List.range (an - 1)) ≤ clN (fun x y => Ta x y == k) (List.range an) ∧
    clN (fun x y => Tn x y == k) (List.range (an - 1 + bn)) = clN (fun x y => Td x y == k) (List.range (an - 1)) + (clN (fun x y => Ta x y == k) (List.range an) - clN (fun x y => Td x y == k) (List.range (an - 1))) * (clN (fun x y => Tb x y == k) (List.range bn) - 1) := by
  have := X.pl
  have syn : ∀ x y, (Tn x y == k) = (Tn y x == k) := fun x y => by rw [X.Sn.sy]
  have sya : ∀ x y, (Ta x y == k) = (Ta y x == k) := fun x y => by rw [X.Sa.sy]
  -- the old points alone
  have oldA : clN (fun x y => Td x y == k) (List.range (an - 1)) = clN (fun x y => Ta x y == k) ((List.range (an - 1)).map (nmS p)) := by
    rw [clN_map (nmS p) _ _ (Nat.le_refl _)]
    exact clN_congr _ _ (Nat.le_refl _) fun x hx y hy => by rw [hd x y (List.mem_range.mp hx) (List.mem_range.mp hy)]
  have oldN : clN (fun x y => Tn x y == k) (List.range (an - 1)) = clN (fun x y => Ta x y == k) ((List.range (an - 1)).map (nmS p)) := by
    rw [clN_map (nmS p) _ _ (Nat.le_refl _)]
    refine clN_congr _ _ (Nat.le_refl _) fun x hx y hy => ?_
    have hx := List.mem_range.mp hx
    have hy := List.mem_range.mp hy
    rw [X.out x y (by omega) (by omega) (by omega), psS, psS, if_pos hx, if_pos hy]
  -- all points of a
  have pmA : (List.range an).Perm (p :: (List.range (an - 1)).map (nmS p)) := by
    refine (List.perm_ext_iff_of_nodup List.nodup_range (List.nodup_cons.mpr ⟨fun h => ?_, ?_⟩)).mpr fun x => ?_
    · obtain ⟨i, _, e⟩ := List.mem_map.mp h
      exact nmS_ne p i e
    · rw [List.Nodup, List.pairwise_map]
      exact List.nodup_range.imp fun h e => h (nmS_inj e)
    · rw [List.mem_range, List.mem_cons, List.mem_map]
      constructor
      · intro hx
        by_cases e : x = p
        · exact .inl e
        · exact .inr ⟨umS p x, List.mem_range.mpr (umS_lt X.pl hx e), nmS_um e⟩
      · rintro (e | ⟨i, hi, rfl⟩)
        · rw [e]
          exact X.pl
        · exact nmS_lt X.pl (List.mem_range.mp hi)
  have allA := clN_perm sya _ pmA (Nat.le_refl _)
  rw [clN_cons] at allA
  -- those put in, then the old ones
  have pmN : (List.range (an - 1 + bn)).Perm ((List.range bn).map (fun z => an - 1 + z) ++ List.range (an - 1)) := by
    rw [List.range_add]
    exact List.perm_append_comm
  have allN := clN_perm syn _ pmN (Nat.le_refl _)
  have al := clN_alike (e := fun x y => Tn x y == k) (q := fun y => Ta p (nmS p y) == k) _ ((List.range bn).map fun z => an - 1 + z) (List.range (an - 1)) (Nat.le_refl _) fun m hm y hy => by
    obtain ⟨z, hz, rfl⟩ := List.mem_map.mp hm
    have hz := List.mem_range.mp hz
    have hy := List.mem_range.mp hy
    show (Tn (an - 1 + z) y == k) = _
    rw [X.out (an - 1 + z) y (by omega) (by omega) (by omega), psS, psS, if_neg (by omega), if_pos hy]
  have inB : clN (fun x y => Tn x y == k) ((List.range bn).map fun z => an - 1 + z) = clN (fun x y => Tb x y == k) (List.range bn) := by
    rw [clN_map (fun z => an - 1 + z) _ _ (Nat.le_refl _)]
    exact clN_congr _ _ (Nat.le_refl _) fun x hx y hy => by rw [X.inn x y (List.mem_range.mp hx) (List.mem_range.mp hy)]
  have np : clN (fun x y => Tn x y == k) ((List.range (an - 1)).filter fun y => Ta p (nmS p y) == k) = clN (fun x y => Ta x y == k) (((List.range (an - 1)).map (nmS p)).filter fun y => Ta p y == k) := by
    rw [List.filter_map, clN_map (nmS p) _ _ (Nat.le_refl _)]
    refine clN_congr _ _ (Nat.le_refl _) fun x hx y hy => ?_
    have hx := List.mem_range.mp (List.mem_filter.mp hx).1
    have hy := List.mem_range.mp (List.mem_filter.mp hy).1
    rw [X.out x y (by omega) (by omega) (by omega), psS, psS, if_pos hx, if_pos hy]
  rw [inB, np, oldN] at al
  rw [oldA, allA, allN]
  have b1 := clN_pos (fun x y => Tb x y == k) _ (List.range bn) (Nat.le_refl _)
  refine ⟨Nat.le_add_right _ _, ?_⟩
  rw [Nat.add_sub_cancel_left, Nat.mul_sub, Nat.mul_one, Nat.mul_comm (clN _ (List.filter _ _))]
  generalize clN (fun x y => Ta x y == k) (((List.range (an - 1)).map (nmS p)).filter fun y => Ta p y == k) = c at *
  have le : c ≤ clN (fun x y => Tb x y == k) (List.range bn) * c := Nat.le_mul_of_pos_left _ b1
  omega
end
end Ns

/-! Own layer, plain: nets made of nets: arrows. -/
namespace Ns
open PySem PySem.Spec PyProof.Rows L2
/-- the ties among some points, as arrows -/
def arT (T : Tm) (ps : List Nat) : Ar := fun x y => x ∈ ps ∧ y ∈ ps ∧ T x y = true
theorem arT_und {T : Tm} (S : SyT T) (ps : List Nat) : Und (arT T ps) := ⟨fun {x y} h => ⟨h.2.1, h.1, by rw [S.sy]; exact h.2.2⟩, fun {x} h => by have := h.2.2; rw [S.ir] at this; cases this⟩
/-- how the parts of a net stand, as arrows of their numbers -/
def arI (R : Nat → Nat → Bool) (k : Nat) : Ar := fun i j => i < k ∧ j < k ∧ i ≠ j ∧ R i j = true
/-- the points of ps fall into the parts Ls, and points of two parts stand as R tells of the parts' numbers -/
structure Parted (T : Tm) (ps : List Nat) (Ls : List (List Nat)) (R : Nat → Nat → Bool) : Prop where
  pm : ps.Perm Ls.flatten
  nd : ps.Nodup
  ne : ∀ L ∈ Ls, L ≠ []
  sy : ∀ i j, R i j = R j i
  st : ∀ {i j Li Lj}, Ls[i]? = some Li → Ls[j]? = some Lj → i ≠ j → ∀ x ∈ Li, ∀ y ∈ Lj, T x y = R i j
section
variable {T : Tm} {ps : List Nat} {Ls : List (List Nat)} {R : Nat → Nat → Bool} (S : SyT T) (X : Parted T ps Ls R)
include X
theorem Parted.at_ {x : Nat} (hx : x ∈ ps) : ∃ (i : Nat) (L : List Nat), Ls[i]? = some L ∧ x ∈ L := by
  obtain ⟨L, hL, h⟩ := List.mem_flatten.mp (X.pm.mem_iff.mp hx)
  obtain ⟨i, hi⟩ := List.getElem?_of_mem hL
  exact ⟨i, L, hi, h⟩
theorem Parted.in_ {i : Nat} {L : List Nat} (hL : Ls[i]? = some L) {x : Nat} (hx : x ∈ L) : x ∈ ps := X.pm.mem_iff.mpr (List.mem_flatten.mpr ⟨L, List.mem_of_getElem? hL, hx⟩)
theorem Parted.one {i j : Nat} {L M : List Nat} (hL : Ls[i]? = some L) (hM : Ls[j]? = some M) {x : Nat} (hx : x ∈ L) (hy : x ∈ M) : i = j := by
  have nd : Ls.flatten.Nodup := X.pm.nodup_iff.mp X.nd
  have h := (List.pairwise_flatten.mp nd).2
  obtain ⟨h1, e1⟩ := List.getElem?_eq_some_iff.mp hL
  obtain ⟨h2, e2⟩ := List.getElem?_eq_some_iff.mp hM
  rcases Nat.lt_trichotomy i j with c | c | c
  · exact absurd rfl (List.pairwise_iff_getElem.mp h i j h1 h2 c x (by rw [e1]; exact hx) x (by rw [e2]; exact hy))
  · exact c
  · exact absurd rfl (List.pairwise_iff_getElem.mp h j i h2 h1 c x (by rw [e2]; exact hy) x (by rw [e1]; exact hx))
include S
theorem Parted.arrows : NoTurn (arT T ps) ↔ NoTurn (arI R Ls.length) ∧ ∀ L ∈ Ls, NoTurn (arT T L) := by
  have UI : Und (arI R Ls.length) := ⟨fun {x y} h => ⟨h.2.1, h.1, Ne.symm h.2.2.1, by rw [X.sy]; exact h.2.2.2⟩, fun {x} h => h.2.2.1 rfl⟩
  let sq : List Nat → List (Nat × Nat) := fun l => l.flatMap fun x => l.map fun y => (x, y)
  have msq : ∀ (l : List Nat) x y, x ∈ l → y ∈ l → (x, y) ∈ sq l := fun l x y hx hy => List.mem_flatMap.mpr ⟨x, hx, List.mem_map.mpr ⟨y, hy, rfl⟩⟩
  have lenI : ∀ {i : Nat} {L : List Nat}, Ls[i]? = some L → i < Ls.length := fun {i L} h => (List.getElem?_eq_some_iff.mp h).1
  constructor
  · intro N
    obtain ⟨F, O⟩ := noturn_to (sq ps) _ (arT_und S ps) (fun x y e => msq _ _ _ e.1 e.2.1) N (Nat.le_refl _)
    refine ⟨?_, fun L hL => ?_⟩
    · let f : Nat → Nat := fun i => ((Ls[i]?).getD []).headD 0
      have hf : ∀ i, i < Ls.length → ∃ L : List Nat, Ls[i]? = some L ∧ f i ∈ L := fun i hi => by
        refine ⟨Ls[i], List.getElem?_eq_getElem hi, ?_⟩
        have hne := X.ne _ (List.getElem_mem hi)
        show ((Ls[i]?).getD []).headD 0 ∈ Ls[i]
        rw [List.getElem?_eq_getElem hi]
        show (Ls[i]).headD 0 ∈ Ls[i]
        cases e : Ls[i] with
        | nil => exact absurd e hne
        | cons a r => exact List.mem_cons_self ..
      refine to_noturnC UI (O.pull (fun i => i < Ls.length) f (fun i j h => ⟨h.1, h.2.1⟩) fun i j hi hj => ?_)
      obtain ⟨Li, h1, h2⟩ := hf i hi
      obtain ⟨Lj, h3, h4⟩ := hf j hj
      constructor
      · rintro ⟨_, _, ne, r⟩
        exact ⟨X.in_ h1 h2, X.in_ h3 h4, by rw [X.st h1 h3 ne _ h2 _ h4]; exact r⟩
      · rintro ⟨_, _, t⟩
        by_cases e : i = j
        · subst e
          rw [S.ir] at t
          cases t
        · exact ⟨hi, hj, e, by rw [← X.st h1 h3 e _ h2 _ h4]; exact t⟩
    · obtain ⟨i, hi⟩ := List.getElem?_of_mem hL
      refine to_noturnC (arT_und S L) (O.pull (fun x => x ∈ L) (fun x => x) (fun x y h => ⟨h.1, h.2.1⟩) fun x y hx hy => ?_)
      exact ⟨fun h => ⟨X.in_ hi hx, X.in_ hi hy, h.2.2⟩, fun h => ⟨hx, hy, h.2.2⟩⟩
  · rintro ⟨NR, NL⟩
    obtain ⟨FR, OR⟩ := noturn_to (sq (List.range Ls.length)) _ UI (fun x y e => msq _ _ _ (List.mem_range.mpr e.1) (List.mem_range.mpr e.2.1)) NR (Nat.le_refl _)
    have hL : ∀ i : Nat, ∃ F : Ar, ∀ L : List Nat, Ls[i]? = some L → TO (arT T L) F := fun i => by
      cases e : Ls[i]? with
      | none => exact ⟨fun _ _ => False, fun L h => nomatch h⟩
      | some L =>
        obtain ⟨F, O⟩ := noturn_to (sq L) _ (arT_und S L) (fun x y e => msq _ _ _ e.1 e.2.1) (NL L (List.mem_of_getElem? e)) (Nat.le_refl _)
        exact ⟨F, fun L' h => by rw [← Option.some.inj h]; exact O⟩
    let FL : Nat → Ar := fun i => Classical.choose (hL i)
    have OL : ∀ {i : Nat} {L : List Nat}, Ls[i]? = some L → TO (arT T L) (FL i) := fun {i L} h => Classical.choose_spec (hL i) L h
    let F : Ar := fun x y => ∃ (i j : Nat) (Li Lj : List Nat), Ls[i]? = some Li ∧ Ls[j]? = some Lj ∧ x ∈ Li ∧ y ∈ Lj ∧ ((i = j ∧ FL i x y) ∨ (i ≠ j ∧ FR i j))
    refine to_noturnC (F := F) (arT_und S ps) ⟨?_, ?_, ?_, ?_⟩
    · rintro x y ⟨i, j, Li, Lj, h1, h2, hx, hy, ⟨e, f⟩ | ⟨ne, f⟩⟩
      · subst e
        have := (OL h1).sub f
        exact ⟨X.in_ h1 hx, X.in_ h2 hy, this.2.2⟩
      · have := OR.sub f
        exact ⟨X.in_ h1 hx, X.in_ h2 hy, by rw [X.st h1 h2 ne _ hx _ hy]; exact this.2.2.2⟩
    · intro x y h
      obtain ⟨i, Li, h1, hx⟩ := X.at_ h.1
      obtain ⟨j, Lj, h2, hy⟩ := X.at_ h.2.1
      by_cases e : i = j
      · subst e
        rw [h1] at h2
        cases h2
        rcases (OL h1).all ⟨hx, hy, h.2.2⟩ with f | f
        · exact .inl ⟨i, i, Li, Li, h1, h1, hx, hy, .inl ⟨rfl, f⟩⟩
        · exact .inr ⟨i, i, Li, Li, h1, h1, hy, hx, .inl ⟨rfl, f⟩⟩
      · have r : R i j = true := by rw [← X.st h1 h2 e _ hx _ hy]; exact h.2.2
        rcases OR.all (x := i) (y := j) ⟨lenI h1, lenI h2, e, r⟩ with f | f
        · exact .inl ⟨i, j, Li, Lj, h1, h2, hx, hy, .inr ⟨e, f⟩⟩
        · exact .inr ⟨j, i, Lj, Li, h2, h1, hy, hx, .inr ⟨Ne.symm e, f⟩⟩
    · rintro x y ⟨i, j, Li, Lj, h1, h2, hx, hy, h⟩ ⟨j', i', Lj', Li', g1, g2, gy, gx, g⟩
      have e1 := X.one h1 g2 hx gx
      have e2 := X.one h2 g1 hy gy
      subst e1
      subst e2
      rcases h with ⟨e, f⟩ | ⟨ne, f⟩
      · subst e
        rcases g with ⟨_, f2⟩ | ⟨ne2, _⟩
        · exact (OL h1).one f f2
        · exact ne2 rfl
      · rcases g with ⟨e, _⟩ | ⟨_, f2⟩
        · exact ne e.symm
        · exact OR.one f f2
    · rintro x y z ⟨i, j, Li, Lj, h1, h2, hx, hy, h⟩ ⟨j', k, Lj', Lk, g1, g2, gy, gz, g⟩
      have e2 := X.one h2 g1 hy gy
      subst e2
      refine ⟨i, k, Li, Lk, h1, g2, hx, gz, ?_⟩
      rcases h with ⟨e, f⟩ | ⟨ne, f⟩
      · subst e
        rcases g with ⟨e, f2⟩ | ⟨ne2, f2⟩
        · subst e
          exact .inl ⟨rfl, (OL h1).go f f2⟩
        · exact .inr ⟨ne2, f2⟩
      · rcases g with ⟨e, _⟩ | ⟨_, f2⟩
        · subst e
          exact .inr ⟨ne, f⟩
        · by_cases e : i = k
          · subst e
            exact absurd f2 (OR.one f)
          · exact .inr ⟨e, OR.go f f2⟩
end
end Ns

/-! Own layer, plain: arrows of ways, rings, and their opposites. -/
namespace Ns
open PySem PySem.Spec PyProof.Rows L2
/-- next to each other on a way, or a ring -/
def nearW (ring : Bool) (k i j : Nat) : Bool := decide (i + 1 = j ∨ j + 1 = i ∨ ring = true ∧ (i = 0 ∧ j + 1 = k ∨ j = 0 ∧ i + 1 = k))
theorem nearW_iff {ring : Bool} {k i j : Nat} : nearW ring k i j = true ↔ i + 1 = j ∨ j + 1 = i ∨ ring = true ∧ (i = 0 ∧ j + 1 = k ∨ j = 0 ∧ i + 1 = k) := decide_eq_true_iff
theorem nearW_sy (ring : Bool) (k i j : Nat) : nearW ring k i j = nearW ring k j i := by
  rw [Bool.eq_iff_iff, nearW_iff, nearW_iff]
  constructor <;> (rintro (h | h | ⟨r, h | h⟩) <;> simp_all)
/-- how the trees below a prime sort stand -/
def primeR (ring turned : Bool) (k i j : Nat) : Bool := nearW ring k i j != turned
theorem primeR_sy (ring turned : Bool) (k i j : Nat) : primeR ring turned k i j = primeR ring turned k j i := by unfold primeR; rw [nearW_sy]
theorem arI_und {R : Nat → Nat → Bool} (sy : ∀ i j, R i j = R j i) (k : Nat) : Und (arI R k) := ⟨fun {x y} h => ⟨h.2.1, h.1, Ne.symm h.2.2.1, by rw [sy]; exact h.2.2.2⟩, fun {x} h => h.2.2.1 rfl⟩
theorem all_noturn (k : Nat) (b : Bool) : NoTurn (arI (fun _ _ => b) k) := by
  refine to_noturnC (F := fun i j => arI (fun _ _ => b) k i j ∧ i < j) (arI_und (fun _ _ => rfl) k) ⟨fun h => h.1, fun {x y} h => ?_, fun h g => by omega, fun {x y z} h g => ⟨⟨h.1.1, g.1.2.1, by omega, h.1.2.2.2⟩, by omega⟩⟩
  have U := arI_und (R := fun _ _ => b) (fun _ _ => rfl) k
  rcases Nat.lt_or_gt_of_ne h.2.2.1 with c | c
  · exact .inl ⟨h, c⟩
  · exact .inr ⟨U.sy h, c⟩
/-- each tie between an even and an odd one -/
theorem par_noturn {R : Nat → Nat → Bool} (sy : ∀ i j, R i j = R j i) {k : Nat} (h : ∀ i j, arI R k i j → i % 2 ≠ j % 2) : NoTurn (arI R k) := by
  have U := arI_und sy k
  refine to_noturnC (F := fun i j => arI R k i j ∧ i % 2 = 0) U ⟨fun h => h.1, fun {x y} e => ?_, fun {x y} a b => ?_, fun {x y z} a b => ?_⟩
  · have := h _ _ e
    by_cases c : x % 2 = 0
    · exact .inl ⟨e, c⟩
    · exact .inr ⟨U.sy e, by omega⟩
  · have := h _ _ a.1
    omega
  · have := h _ _ a.1
    omega
theorem way_noturn (k : Nat) (turned : Bool) : NoTurn (arI (primeR false turned k) k) := by
  cases turned with
  | false =>
    refine par_noturn (primeR_sy _ _ _) fun i j h => ?_
    have h := h.2.2.2
    unfold primeR at h
    have h : nearW false k i j = true := by simpa using h
    rcases nearW_iff.mp h with h | h | ⟨h, _⟩
    · omega
    · omega
    · cases h
  | true =>
    have U := arI_und (primeR_sy false true k) k
    have e : ∀ {i j}, primeR false true k i j = true ↔ ¬ (i + 1 = j ∨ j + 1 = i) := fun {i j} => by
      unfold primeR nearW
      simp
    refine to_noturnC (F := fun i j => arI (primeR false true k) k i j ∧ i < j) U ⟨fun h => h.1, fun {x y} h => ?_, fun h g => by omega, fun {x y z} h g => ?_⟩
    · rcases Nat.lt_or_gt_of_ne h.2.2.1 with c | c
      · exact .inl ⟨h, c⟩
      · exact .inr ⟨U.sy h, c⟩
    · have h1 := e.mp h.1.2.2.2
      have h2 := e.mp g.1.2.2.2
      exact ⟨⟨h.1.1, g.1.2.1, by omega, e.mpr (by omega)⟩, by omega⟩
theorem ring_noturn {k : Nat} (h : k % 2 = 0) : NoTurn (arI (primeR true false k) k) := by
  refine par_noturn (primeR_sy _ _ _) fun i j g => ?_
  have hi := g.1
  have hj := g.2.1
  have g := g.2.2.2
  unfold primeR at g
  have g : nearW true k i j = true := by simpa using g
  rcases nearW_iff.mp g with g | g | ⟨_, g | g⟩ <;> omega
theorem ring_turn {k : Nat} (h5 : 5 ≤ k) (h : k % 2 = 1) : ¬ NoTurn (arI (primeR true false k) k) := by
  have e : ∀ {i j}, primeR true false k i j = true ↔ (i + 1 = j ∨ j + 1 = i ∨ (i = 0 ∧ j + 1 = k ∨ j = 0 ∧ i + 1 = k)) := fun {i j} => by
    unfold primeR nearW
    simp
  have E : ∀ {i j}, i < k → j < k → (i + 1 = j ∨ j + 1 = i ∨ (i = 0 ∧ j + 1 = k ∨ j = 0 ∧ i + 1 = k)) → arI (primeR true false k) k i j := fun {i j} hi hj g => ⟨hi, hj, by omega, e.mpr g⟩
  have nE : ∀ {i j}, ¬ (i + 1 = j ∨ j + 1 = i ∨ (i = 0 ∧ j + 1 = k ∨ j = 0 ∧ i + 1 = k)) → ¬ arI (primeR true false k) k i j := fun {i j} g a => g (e.mp a.2.2.2)
  have up : ∀ m, 2 * m + 1 < k → Cls (arI (primeR true false k) k) 0 1 (2 * m) (2 * m + 1) := by
    intro m
    induction m with
    | zero => exact fun _ => .self (E (by omega) (by omega) (by omega))
    | succ m ih =>
      intro hm
      have a := ih (by omega)
      have b := Cls.step a (.tail (E (by omega) (by omega) (by omega)) (E (i := 2 * m + 2) (by omega) (by omega) (by omega)) (nE (by omega)) (by omega))
      exact Cls.step b (.head (E (by omega) (by omega) (by omega)) (E (j := 2 * (m + 1) + 1) (by omega) (by omega) (by omega)) (nE (by omega)) (by omega))
  intro N
  obtain ⟨m, hm⟩ : ∃ m, k = 2 * m + 3 := ⟨(k - 3) / 2, by omega⟩
  have a := up m (by omega)
  have b := Cls.step a (.tail (E (by omega) (by omega) (by omega)) (E (i := k - 1) (by omega) (by omega) (by omega)) (nE (by omega)) (by omega))
  have c := Cls.step b (.head (E (by omega) (by omega) (by omega)) (E (j := 0) (by omega) (by omega) (by omega)) (nE (by omega)) (by omega))
  have d := Cls.step c (.tail (E (by omega) (by omega) (by omega)) (E (i := 1) (by omega) (by omega) (by omega)) (nE (by omega)) (by omega))
  exact N 0 1 (E (by omega) (by omega) (by omega)) d
theorem coring_turn {k : Nat} (h5 : 5 ≤ k) : ¬ NoTurn (arI (primeR true true k) k) := by
  have e : ∀ {i j}, primeR true true k i j = true ↔ ¬ (i + 1 = j ∨ j + 1 = i ∨ (i = 0 ∧ j + 1 = k ∨ j = 0 ∧ i + 1 = k)) := fun {i j} => by
    unfold primeR nearW
    by_cases c : (i + 1 = j ∨ j + 1 = i ∨ (i = 0 ∧ j + 1 = k ∨ j = 0 ∧ i + 1 = k)) <;> simp [c]
  have E : ∀ {i j}, i < k → j < k → i ≠ j → ¬ (i + 1 = j ∨ j + 1 = i ∨ (i = 0 ∧ j + 1 = k ∨ j = 0 ∧ i + 1 = k)) → arI (primeR true true k) k i j := fun {i j} hi hj ne g => ⟨hi, hj, ne, e.mpr g⟩
  have nE : ∀ {i j}, (i + 1 = j ∨ j + 1 = i ∨ (i = 0 ∧ j + 1 = k ∨ j = 0 ∧ i + 1 = k)) → ¬ arI (primeR true true k) k i j := fun {i j} g a => e.mp a.2.2.2 g
  have a0 : Cls (arI (primeR true true k) k) 0 2 0 2 := .self (E (by omega) (by omega) (by omega) (by omega))
  have a1 := Cls.step a0 (.head (E (by omega) (by omega) (by omega) (by omega)) (E (j := 3) (by omega) (by omega) (by omega) (by omega)) (nE (by omega)) (by omega))
  have a2 := Cls.step a1 (.tail (E (by omega) (by omega) (by omega) (by omega)) (E (i := 1) (by omega) (by omega) (by omega) (by omega)) (nE (by omega)) (by omega))
  have a3 := Cls.step a2 (.head (E (by omega) (by omega) (by omega) (by omega)) (E (j := 4) (by omega) (by omega) (by omega) (by omega)) (nE (by omega)) (by omega))
  have a4 := Cls.step a3 (.tail (E (by omega) (by omega) (by omega) (by omega)) (E (i := 2) (by omega) (by omega) (by omega) (by omega)) (nE (by omega)) (by omega))
  have up : ∀ m, 4 + m < k → Cls (arI (primeR true true k) k) 0 2 2 (4 + m) := by
    intro m
    induction m with
    | zero => exact fun _ => a4
    | succ m ih =>
      intro hm
      exact Cls.step (ih (by omega)) (.head (E (by omega) (by omega) (by omega) (by omega)) (E (j := 4 + (m + 1)) (by omega) (by omega) (by omega) (by omega)) (nE (by omega)) (by omega))
  intro N
  have b := up (k - 5) (by omega)
  have c := Cls.step b (.head (E (by omega) (by omega) (by omega) (by omega)) (E (j := 0) (by omega) (by omega) (by omega) (by omega)) (nE (by omega)) (by omega))
  exact N 0 2 (E (by omega) (by omega) (by omega) (by omega)) c
/-- just these go through -/
theorem prime_arrows {k : Nat} (h4 : 4 ≤ k) {ring turned : Bool} (h5 : ring = true → 5 ≤ k) : NoTurn (arI (primeR ring turned k) k) ↔ ¬ (ring = true ∧ (turned = true ∨ k % 2 = 1)) := by
  cases ring with
  | false => exact iff_of_true (way_noturn k turned) fun h => nomatch h.1
  | true =>
    cases turned with
    | true => exact iff_of_false (coring_turn (h5 rfl)) fun h => h ⟨rfl, .inl rfl⟩
    | false =>
      by_cases c : k % 2 = 1
      · exact iff_of_false (ring_turn (h5 rfl) c) fun h => h ⟨rfl, .inr c⟩
      · exact iff_of_true (ring_noturn (by omega)) fun h => h.2.elim (fun h => nomatch h) c
end Ns

/-! Own layer, plain: all sets of points one after another, and how many of them hang together. -/
namespace Ns
open PySem PySem.Spec PyProof.Rows L2
/-- all sets of some points, as the law makes them -/
def lotsN (ps : List Nat) : List (List Nat) := ps.foldl (fun ls x => ls ++ ls.map fun l => l ++ [x]) [[]]
theorem lotsN_snoc (ps : List Nat) (x : Nat) : lotsN (ps ++ [x]) = lotsN ps ++ (lotsN ps).map fun l => l ++ [x] := by
  unfold lotsN
  rw [List.foldl_append]
  rfl
theorem snoc_ind {P : List Nat → Prop} (h0 : P []) (h1 : ∀ l x, P l → P (l ++ [x])) (l : List Nat) : P l := by
  have : ∀ r : List Nat, P r.reverse := fun r => by
    induction r with
    | nil => exact h0
    | cons a r ih =>
      rw [List.reverse_cons]
      exact h1 _ _ ih
  have := this l.reverse
  rwa [List.reverse_reverse] at this
theorem lots_filter (q : Nat → Bool) (ps : List Nat) : ∀ p : List Nat → Bool, (lotsN ps).countP (fun l => p l && l.all q) = (lotsN (ps.filter q)).countP p := by
  induction ps using snoc_ind with
  | h0 =>
    intro p
    show List.countP _ [[]] = List.countP p [[]]
    simp [List.countP_cons]
  | h1 ps x ih =>
    intro p
    rw [lotsN_snoc, List.countP_append, List.countP_map, ih p, List.filter_append]
    cases hq : q x with
    | true =>
      rw [show [x].filter q = [x] by simp [hq], lotsN_snoc, List.countP_append, List.countP_map, ← ih (p ∘ fun l => l ++ [x])]
      refine congrArg (_ + ·) (congrArg (fun f => (lotsN ps).countP f) (funext fun l => ?_))
      simp [hq]
    | false =>
      rw [show [x].filter q = [] by simp [hq], List.append_nil]
      refine (congrArg (_ + ·) (List.countP_eq_zero.mpr fun l _ => ?_)).trans (Nat.add_zero _)
      simp [hq]
/-- any two of a set are e -/
def pwB (e : Nat → Nat → Bool) (l : List Nat) : Bool := decide (l.Pairwise fun y x => e x y = true)
theorem pwB_snoc (e : Nat → Nat → Bool) (l : List Nat) (x : Nat) : pwB e (l ++ [x]) = (pwB e l && l.all (e x)) := by
  unfold pwB
  rw [Bool.eq_iff_iff, decide_eq_true_eq, Bool.and_eq_true, decide_eq_true_eq, List.pairwise_append, List.all_eq_true]
  constructor
  · rintro ⟨h1, _, h3⟩
    exact ⟨h1, fun y hy => h3 y hy x (List.mem_singleton.mpr rfl)⟩
  · rintro ⟨h1, h2⟩
    exact ⟨h1, List.pairwise_singleton _ _, fun y hy z hz => by rw [List.mem_singleton.mp hz]; exact h2 y hy⟩
theorem lots_count {e : Nat → Nat → Bool} (sy : ∀ x y, e x y = e y x) (n : Nat) : ∀ ps : List Nat, ps.length ≤ n → (lotsN ps).countP (pwB e) = clN e ps := by
  induction n with
  | zero =>
    intro ps h
    have : ps = [] := List.length_eq_zero_iff.mp (by omega)
    subst this
    rw [clN_nil]
    show List.countP (pwB e) [[]] = 1
    simp [List.countP_cons, pwB]
  | succ n ih =>
    intro ps h
    by_cases c : ps = []
    · subst c
      exact ih [] (Nat.zero_le _)
    obtain ⟨ys, y, rfl⟩ : ∃ ys y, ps = ys ++ [y] := ⟨ps.dropLast, ps.getLast c, (List.dropLast_concat_getLast c).symm⟩
    rw [List.length_append, List.length_singleton] at h
    have hf := List.length_filter_le (e y) ys
    rw [lotsN_snoc, List.countP_append, List.countP_map, ih ys (by omega), clN_perm sy (ys.length + 1) (show (ys ++ [y]).Perm (y :: ys) from List.perm_append_singleton y ys) (by rw [List.length_append, List.length_singleton]; exact Nat.le_refl _), clN_cons, ← ih (ys.filter (e y)) (by omega), ← lots_filter (e y) ys (pwB e)]
    exact congrArg (_ + ·) (congrArg (fun f => (lotsN ys).countP f) (funext fun l => pwB_snoc e l y))
end Ns

/-! Own layer, plain: the smallest alike set with two points; the parts by it; the tree and its sets. -/
namespace Ns
open PySem PySem.Spec PyProof.Rows L2
section
variable {T : Nat → Nat → Bool} {P : List Nat}
/-! ### the smallest alike set with two points -/
structure AlW (T : Nat → Nat → Bool) (P : List Nat) (x y : Nat) (left more : List Nat) : Prop where
  sub : left.Sublist P
  nx : x ∉ left
  ny : y ∉ left
  mo : ∃ q : Nat → Bool, more = left.filter q
  in_ : ∀ M, Md T P M → M x → M y → (∀ z ∈ P, z ∉ left → M z) ∧ ∀ z ∈ more, M z
  un : ∀ z ∈ left, z ∉ more → ∀ a ∈ P, a ∉ left → T z a = T z x
theorem AlW.start {x y : Nat} (hx : x ∈ P) (hy : y ∈ P) : AlW T P x y (P.filter fun z => !decide (z ∈ [x, y])) ((P.filter fun z => !decide (z ∈ [x, y])).filter fun z => T z y != T z x) := by
  have out : ∀ z ∈ P, z ∉ (P.filter fun z => !decide (z ∈ [x, y])) → z = x ∨ z = y := fun z hz hn => by
    apply Classical.byContradiction
    intro k
    rw [not_or] at k
    exact hn (List.mem_filter.mpr ⟨hz, by simp [k.1, k.2]⟩)
  refine ⟨List.filter_sublist, fun h => ?_, fun h => ?_, ⟨_, rfl⟩, fun M hM mx my => ⟨fun z hz hn => ?_, fun z hz => ?_⟩, fun z hz hn a ha han => ?_⟩
  · have := (List.mem_filter.mp h).2
    simp at this
  · have := (List.mem_filter.mp h).2
    simp at this
  · rcases out z hz hn with e | e <;> rw [e] <;> assumption
  · obtain ⟨h1, h2⟩ := List.mem_filter.mp hz
    apply Classical.byContradiction
    intro k
    have := hM z (List.mem_filter.mp h1).1 k y hy x hx my mx
    rw [this] at h2
    simp at h2
  · rcases out a ha han with e | e
    · rw [e]
    · rw [e]
      apply Classical.byContradiction
      intro k
      exact hn (List.mem_filter.mpr ⟨hz, by rw [bne_iff_ne]; exact k⟩)
theorem AlW.step {x y : Nat} {left more : List Nat} (hx : x ∈ P) (h : AlW T P x y left more) : AlW T P x y (left.filter fun z => !decide (z ∈ more)) ((left.filter fun z => !decide (z ∈ more)).filter fun z => more.any fun w => T z w != T z x) := by
  have mem : ∀ z, z ∈ (left.filter fun z => !decide (z ∈ more)) ↔ z ∈ left ∧ z ∉ more := fun z => by
    rw [List.mem_filter]
    simp
  have old : ∀ z ∈ P, z ∉ (left.filter fun z => !decide (z ∈ more)) → z ∉ left ∨ z ∈ more := fun z hz hn => by
    apply Classical.byContradiction
    intro k
    rw [not_or] at k
    exact hn ((mem z).mpr ⟨Classical.byContradiction k.1, k.2⟩)
  refine ⟨List.filter_sublist.trans h.sub, fun k => h.nx ((mem x).mp k).1, fun k => h.ny ((mem y).mp k).1, ⟨_, rfl⟩, fun M hM mx my => ?_, fun z hz hn a ha han => ?_⟩
  · obtain ⟨i1, i2⟩ := h.in_ M hM mx my
    refine ⟨fun z hz hn => (old z hz hn).elim (i1 z hz) (i2 z), fun z hz => ?_⟩
    obtain ⟨h1, h2⟩ := List.mem_filter.mp hz
    obtain ⟨w, hw, hd⟩ := List.any_eq_true.mp h2
    apply Classical.byContradiction
    intro k
    have hwl : w ∈ left := by
      obtain ⟨q, e⟩ := h.mo
      rw [e] at hw
      exact (List.mem_filter.mp hw).1
    have := hM z (h.sub.subset ((mem z).mp h1).1) k w (h.sub.subset hwl) x hx (i2 w hw) mx
    rw [this] at hd
    simp at hd
  · obtain ⟨z1, z2⟩ := (mem z).mp hz
    rcases old a ha han with k | k
    · exact h.un z z1 z2 a ha k
    · apply Classical.byContradiction
      intro g
      exact hn (List.mem_filter.mpr ⟨hz, List.any_eq_true.mpr ⟨a, k, by rw [bne_iff_ne]; exact g⟩⟩)
theorem AlW.len {x y : Nat} {left more : List Nat} (nd : P.Nodup) (h : AlW T P x y left more) : (left.filter fun z => !decide (z ∈ more)).length + more.length = left.length := by
  obtain ⟨q, e⟩ := h.mo
  have e2 : (left.filter fun z => !decide (z ∈ more)) = left.filter fun z => !q z := List.filter_congr fun z hz => by
    rw [e]
    congr 1
    rw [Bool.eq_iff_iff, decide_eq_true_eq, List.mem_filter]
    exact ⟨fun h => h.2, fun h => ⟨hz, h⟩⟩
  have := (filter_part q left).length_eq
  rw [List.length_append] at this
  rw [e2, e]
  omega
theorem start_len {x y : Nat} (nd : P.Nodup) (hx : x ∈ P) (hy : y ∈ P) (ne : x ≠ y) : (P.filter fun z => !decide (z ∈ [x, y])).length + 2 = P.length := by
  have h := (filter_part (fun z => decide (z ∈ [x, y])) P).length_eq
  rw [List.length_append] at h
  have e : (P.filter fun z => decide (z ∈ [x, y])).length = 2 := by
    have ndf := nd.filter fun z => decide (z ∈ [x, y])
    have a := len_le_of_sub (es := P.filter fun z => decide (z ∈ [x, y])) (ns := [x, y]) ndf fun z hz => of_decide_eq_true (List.mem_filter.mp hz).2
    have b := len_le_of_sub (es := [x, y]) (ns := P.filter fun z => decide (z ∈ [x, y])) (List.nodup_cons.mpr ⟨by simpa using ne, by simp⟩) fun z hz => List.mem_filter.mpr ⟨by
      rcases List.mem_cons.mp hz with e | hz
      · rw [e]; exact hx
      · rw [List.mem_singleton.mp hz]; exact hy, decide_eq_true hz⟩
    have : [x, y].length = 2 := rfl
    omega
  omega
/-- nothing more: what is not left is the smallest alike set with both; it is not the whole just if they are in one but the whole -/
theorem AlW.done {x y : Nat} {left : List Nat} (hx : x ∈ P) (hy : y ∈ P) (h : AlW T P x y left []) : left ≠ [] ↔ Sib T P x y := by
  constructor
  · intro hn
    refine ⟨fun z => z ∉ left, fun z hz nz a ha b hb ua ub => ?_, h.nx, h.ny, ?_⟩
    · have zl : z ∈ left := Classical.byContradiction nz
      rw [h.un z zl (fun k => nomatch k) a ha ua, h.un z zl (fun k => nomatch k) b hb ub]
    · cases left with
      | nil => exact absurd rfl hn
      | cons a r => exact ⟨a, h.sub.subset (List.mem_cons_self ..), fun k => k (List.mem_cons_self ..)⟩
  · rintro ⟨M, hM, mx, my, z, hz, mz⟩ e
    subst e
    exact mz ((h.in_ M hM mx my).1 z hz (fun k => nomatch k))
/-! ### the parts, one after another -/
structure GrI (T : Nat → Nat → Bool) (P : List Nat) (Ls : List (List Nat)) (left : List Nat) : Prop where
  pm : (Ls.flatten ++ left).Perm P
  cls : ∀ L ∈ Ls, ∃ x ∈ P, ∀ y ∈ P, y ∈ L ↔ Sib T P x y
  sub : left.Sublist P
  so : ∀ L ∈ Ls, L.Pairwise (· < ·)
  lo : ∀ L ∈ Ls, ∀ y ∈ left, L.headD 0 < y
  up : Ls.Pairwise fun A B => A.headD 0 < B.headD 0
theorem GrI.start : GrI T P [] P := ⟨List.Perm.refl _, fun _ h => (nomatch h), List.Sublist.refl _, fun _ h => (nomatch h), fun _ h => (nomatch h), .nil⟩
theorem GrI.step (S : SyT T) (n1 : ¬ Cutt T true P) (n2 : ¬ Cutt T false P) (ri : P.Pairwise (· < ·)) (two : 2 ≤ P.length) {Ls : List (List Nat)} {x : Nat} {r : List Nat} (h : GrI T P Ls (x :: r)) {q : Nat → Bool} (hq : ∀ y ∈ x :: r, q y = true ↔ Sib T P x y) :
    GrI T P (Ls ++ [(x :: r).filter q]) ((x :: r).filter fun y => !decide (y ∈ (x :: r).filter q)) := by
  have nd : P.Nodup := ri.imp fun h => Nat.ne_of_lt h
  have ril : (x :: r).Pairwise (· < ·) := ri.sublist h.sub
  have hxP : x ∈ P := h.sub.subset (List.mem_cons_self ..)
  have qx : q x = true := (hq x (List.mem_cons_self ..)).mpr (Sib.self nd two)
  have hd : ((x :: r).filter q).headD 0 = x := by
    rw [List.filter_cons_of_pos qx]
    rfl
  have e2 : ((x :: r).filter fun y => !decide (y ∈ (x :: r).filter q)) = (x :: r).filter fun y => !q y := List.filter_congr fun z hz => by
    congr 1
    rw [Bool.eq_iff_iff, decide_eq_true_eq, List.mem_filter]
    exact ⟨fun h => h.2, fun h => ⟨hz, h⟩⟩
  rw [e2]
  have ndall : (Ls.flatten ++ (x :: r)).Nodup := h.pm.nodup_iff.mpr nd
  refine ⟨?_, fun L hL => ?_, List.filter_sublist.trans h.sub, fun L hL => ?_, fun L hL y hy => ?_, ?_⟩
  · rw [List.flatten_append, List.flatten_cons, List.flatten_nil, List.append_nil, List.append_assoc]
    exact ((filter_part q (x :: r)).append_left _).trans h.pm
  · rcases List.mem_append.mp hL with hL | hL
    · exact h.cls L hL
    · rw [List.mem_singleton.mp hL]
      refine ⟨x, hxP, fun y hy => ?_⟩
      rw [List.mem_filter]
      constructor
      · rintro ⟨h1, h2⟩
        exact (hq y h1).mp h2
      · intro g
        have yl : y ∈ x :: r := by
          apply Classical.byContradiction
          intro k
          have hyf : y ∈ Ls.flatten := (List.mem_append.mp (h.pm.mem_iff.mpr hy)).resolve_right k
          obtain ⟨L, hL, yL⟩ := List.mem_flatten.mp hyf
          obtain ⟨u, hu, c⟩ := h.cls L hL
          have xL := (c x hxP).mpr (((c y hy).mp yL).trans S n1 n2 hy g.symm)
          exact (List.nodup_append.mp ndall).2.2 x (List.mem_flatten.mpr ⟨L, hL, xL⟩) x (List.mem_cons_self ..) rfl
        exact ⟨yl, (hq y yl).mpr g⟩
  · rcases List.mem_append.mp hL with hL | hL
    · exact h.so L hL
    · rw [List.mem_singleton.mp hL]
      exact ril.sublist List.filter_sublist
  · obtain ⟨hy1, hy2⟩ := List.mem_filter.mp hy
    rcases List.mem_append.mp hL with hL | hL
    · exact h.lo L hL y hy1
    · rw [List.mem_singleton.mp hL, hd]
      rcases List.mem_cons.mp hy1 with e | hr
      · rw [e, qx] at hy2
        cases hy2
      · exact (List.pairwise_cons.mp ril).1 y hr
  · refine List.pairwise_append.mpr ⟨h.up, List.pairwise_singleton _ _, fun A hA B hB => ?_⟩
    rw [List.mem_singleton.mp hB, hd]
    exact h.lo A hA x (List.mem_cons_self ..)
/-! ### the tree -/
/-- the sort by the parts' least points -/
def SoK (T : Nat → Nat → Bool) (sort : Str) (Ls : List (List Nat)) : Prop :=
  (sort = "apart" ∧ Ls.Pairwise fun A B => T (A.headD 0) (B.headD 0) = false) ∨ (sort = "together" ∧ Ls.Pairwise fun A B => T (A.headD 0) (B.headD 0) = true) ∨
  (sort = "prime" ∧ (¬ Ls.Pairwise fun A B => T (A.headD 0) (B.headD 0) = false) ∧ ¬ Ls.Pairwise fun A B => T (A.headD 0) (B.headD 0) = true)
mutual
/-- the tree of some rising points, with its sets -/
inductive MTr (T : Nat → Nat → Bool) : List Nat → PyData → List (List Nat) → Prop
  | leaf (x : Nat) : MTr T [x] (.int (x : Int)) [[x]]
  | node {ps : List Nat} {sort : Str} {Ls : List (List Nat)} {ds : List PyData} {Ss : List (List (List Nat))} : ps.Pairwise (· < ·) → Kids T ps Ls → 2 ≤ Ls.length → SoK T sort Ls → (∀ L ∈ Ls, L.Pairwise (· < ·)) → (Ls.Pairwise fun A B => A.headD 0 < B.headD 0) →
      MTrs T Ls ds Ss → MTr T ps (.tuple [.str sort, .tuple ds]) (ps :: Ss.flatten)
inductive MTrs (T : Nat → Nat → Bool) : List (List Nat) → List PyData → List (List (List Nat)) → Prop
  | nil : MTrs T [] [] []
  | cons {L : List Nat} {Ls : List (List Nat)} {d : PyData} {ds : List PyData} {S : List (List Nat)} {Ss : List (List (List Nat))} : MTr T L d S → MTrs T Ls ds Ss → MTrs T (L :: Ls) (d :: ds) (S :: Ss)
end
theorem MTrs.snoc {L : List Nat} {Ls : List (List Nat)} {d : PyData} {ds : List PyData} {S : List (List Nat)} {Ss : List (List (List Nat))} (h : MTrs T Ls ds Ss) (g : MTr T L d S) : MTrs T (Ls ++ [L]) (ds ++ [d]) (Ss ++ [S]) := by
  induction ds generalizing Ls Ss with
  | nil =>
    cases h
    exact .cons g .nil
  | cons e ds ih =>
    cases h with
    | cons a t => exact .cons a (ih t)
theorem MTrs.len {Ls : List (List Nat)} {ds : List PyData} {Ss : List (List (List Nat))} (h : MTrs T Ls ds Ss) : ds.length = Ls.length ∧ Ss.length = Ls.length := by
  induction ds generalizing Ls Ss with
  | nil =>
    cases h
    exact ⟨rfl, rfl⟩
  | cons e ds ih =>
    cases h with
    | cons a t =>
      obtain ⟨h1, h2⟩ := ih t
      simp [h1, h2]
theorem sub_sorted : ∀ {l L : List Nat}, l.Pairwise (· < ·) → L.Pairwise (· < ·) → (∀ x ∈ l, x ∈ L) → l.Sublist L
  | [], _, _, _, _ => List.nil_sublist _
  | a :: l, [], _, _, h => absurd (h a (List.mem_cons_self ..)) (fun k => nomatch k)
  | a :: l, b :: L, h1, h2, h => by
    obtain ⟨p1, p2⟩ := List.pairwise_cons.mp h1
    obtain ⟨q1, q2⟩ := List.pairwise_cons.mp h2
    by_cases e : a = b
    · subst e
      refine (sub_sorted p2 q2 fun x hx => ?_).cons_cons a
      rcases List.mem_cons.mp (h x (List.mem_cons_of_mem _ hx)) with e | g
      · have := p1 x hx
        omega
      · exact g
    · have ha : a ∈ L := (List.mem_cons.mp (h a (List.mem_cons_self ..))).resolve_left e
      refine (sub_sorted h1 q2 fun x hx => ?_).cons b
      rcases List.mem_cons.mp (h x hx) with e2 | g
      · have hb := q1 a ha
        rcases List.mem_cons.mp hx with e3 | hx
        · omega
        · have := p1 x hx
          omega
      · exact g
theorem MTr.rising {ps : List Nat} {d : PyData} {Ss : List (List Nat)} (h : MTr T ps d Ss) : ps.Pairwise (· < ·) := by
  cases h with
  | leaf x => exact List.pairwise_singleton _ _
  | node r => exact r
theorem sub_eq {l L : List Nat} (h : l.Sublist L) (g : ∀ x ∈ L, x ∈ l) (nd : L.Nodup) : l = L := h.eq_of_length_le (len_le_of_sub nd g)
mutual
/-- the sets of the tree are the strong ones -/
theorem MTr.sets {ps : List Nat} {d : PyData} {Ss : List (List Nat)} : MTr T ps d Ss → ∀ l : List Nat, l ∈ Ss ↔ l.Sublist ps ∧ Strg T ps (· ∈ l)
  | .leaf x => fun l => by
    rw [List.mem_singleton]
    constructor
    · intro e
      rw [e]
      exact ⟨List.Sublist.refl _, Strg.whole (fun h => nomatch h)⟩
    · rintro ⟨h, g⟩
      obtain ⟨y, hy, hl⟩ := g.ne
      exact sub_eq h (fun z hz => by rw [List.mem_singleton.mp hz, ← List.mem_singleton.mp hy]; exact hl) (by simp)
  | .node (Ls := Ls) (Ss := Ss) ri k two so rs up ts => fun l => by
    have nd : ps.Nodup := ri.imp fun h => Nat.ne_of_lt h
    rw [List.mem_cons]
    constructor
    · rintro (e | h)
      · rw [e]
        refine ⟨List.Sublist.refl _, Strg.whole fun e => ?_⟩
        obtain ⟨L, hL⟩ : ∃ L, L ∈ Ls := List.exists_mem_of_length_pos (by omega)
        obtain ⟨x, hx, _⟩ := (k.str L hL).ne
        rw [e] at hx
        cases hx
      · obtain ⟨L, hL, h1, h2⟩ := (MTrs.sets ts l).mp h
        have s := k.mem hL
        exact ⟨sub_sorted ((rs L hL).sublist h1) ri fun x hx => s x (h1.subset hx), k.up hL h2 fun x _ hx => h1.subset hx⟩
    · rintro ⟨h, g⟩
      by_cases e : l = ps
      · exact .inl e
      · right
        have ex : ∃ x ∈ ps, ¬ x ∈ l := by
          apply Classical.byContradiction
          intro hn
          exact e (sub_eq h (fun x hx => Classical.byContradiction fun k => hn ⟨x, hx, k⟩) nd)
        obtain ⟨L, hL, hl⟩ := k.all _ g ex
        exact (MTrs.sets ts l).mpr ⟨L, hL, sub_sorted (ri.sublist h) (rs L hL) fun x hx => hl x (h.subset hx) hx, k.down hL g hl⟩
theorem MTrs.sets {Ls : List (List Nat)} {ds : List PyData} {Ss : List (List (List Nat))} : MTrs T Ls ds Ss → ∀ l : List Nat, l ∈ Ss.flatten ↔ ∃ L ∈ Ls, l.Sublist L ∧ Strg T L (· ∈ l)
  | .nil => fun l => by simp
  | .cons a t => fun l => by
    rw [List.flatten_cons, List.mem_append, MTr.sets a l, MTrs.sets t l]
    simp
end
mutual
theorem MTr.nodup {ps : List Nat} {d : PyData} {Ss : List (List Nat)} : MTr T ps d Ss → Ss.Nodup
  | .leaf x => by simp
  | .node (Ls := Ls) (Ss := Ss) ri k two so rs up ts => by
    have nd : ps.Nodup := ri.imp fun h => Nat.ne_of_lt h
    have ndf : Ls.flatten.Nodup := k.pm.nodup_iff.mpr nd
    refine List.nodup_cons.mpr ⟨fun h => ?_, MTrs.nodup ts ndf (fun L hL => (k.str L hL).ne.elim fun x h e => by rw [e] at h; exact nomatch h.2)⟩
    obtain ⟨L, hL, h1, h2⟩ := (MTrs.sets ts ps).mp h
    -- all of the points lie in one part: there is no other
    obtain ⟨i, hi⟩ := List.getElem?_of_mem hL
    match Ls, two, hL, ndf, k with
    | A :: B :: r, _, hL, ndf, k =>
      obtain ⟨a, _, ha⟩ := (k.str A (List.mem_cons_self ..)).ne
      obtain ⟨b, _, hb⟩ := (k.str B (List.mem_cons_of_mem _ (List.mem_cons_self ..))).ne
      have e1 := part_same ndf hL (List.mem_cons_self ..) (h1.subset (k.mem (List.mem_cons_self ..) a ha)) ha
      have e2 := part_same ndf hL (List.mem_cons_of_mem _ (List.mem_cons_self ..)) (h1.subset (k.mem (List.mem_cons_of_mem _ (List.mem_cons_self ..)) b hb)) hb
      rw [← e2, e1, List.flatten_cons, List.flatten_cons] at ndf
      exact (List.nodup_append.mp ndf).2.2 a ha a (List.mem_append_left _ ha) rfl
theorem MTrs.nodup {Ls : List (List Nat)} {ds : List PyData} {Ss : List (List (List Nat))} : MTrs T Ls ds Ss → Ls.flatten.Nodup → (∀ L ∈ Ls, L ≠ []) → Ss.flatten.Nodup
  | .nil => fun _ _ => by simp
  | .cons (L := L) a t => fun nd ne => by
    rw [List.flatten_cons] at nd
    obtain ⟨n1, n2, n3⟩ := List.nodup_append.mp nd
    rw [List.flatten_cons]
    refine List.nodup_append.mpr ⟨MTr.nodup a, MTrs.nodup t n2 fun L h => ne L (List.mem_cons_of_mem _ h), fun l hl l' hl' e => ?_⟩
    subst e
    obtain ⟨h1, h2⟩ := (MTr.sets a l).mp hl
    obtain ⟨C, hC, h3, _⟩ := (MTrs.sets t l).mp hl'
    obtain ⟨x, hx, hxl⟩ := h2.ne
    exact n3 x hx x (List.mem_flatten.mpr ⟨C, hC, h3.subset hxl⟩) rfl
end
end
end Ns

/-! Own layer V: any data as values: their types, what a net is. -/
namespace Ns
open PySem PySem.Spec PyProof.Rows L2
def tyName : PyData → String
  | .none => "NoneType"
  | .bool _ => "bool"
  | .int _ => "int"
  | .str _ => "str"
  | .list _ => "list"
  | .tuple _ => "tuple"
  | .dict _ => "dict"
theorem tyX_of {K : PySem.W.Frag} {H : Hp} {v : V} {d : PyData} (h : Dp K H v d) : TyX K H v (.type (tyName d)) := by
  cases h with
  | non => exact .base .non
  | bl b => exact .base (.bl b)
  | int i => exact .base (.int i)
  | str x => exact .base (.str x)
  | lst h _ =>
    rcases h with (h | ⟨o, h⟩) | ⟨o, its, n, h, c, _⟩
    · exact .base (.lst h)
    · exact .base (.frz h)
    · exact .kList h c
  | tup h _ =>
    rcases h with (h | ⟨o, h⟩) | ⟨o, its, n, h, c, _⟩
    · exact .base (.tup h)
    · exact .fTuple h
    · exact .kTuple h c
/-- isinstance of data by the name of its type -/
def isiB (d : PyData) (T : String) : Bool := (kitB (tyName d) T).getD false
theorem kit_isi (d : PyData) (T : String) (h : T = "int" ∨ T = "bool" ∨ T = "str" ∨ T = "tuple" ∨ T = "list" ∨ T = "dict") : kitB (tyName d) T = some (isiB d T) := by
  have e : (kitB (tyName d) T).isSome = true := by
    rcases h with rfl | rfl | rfl | rfl | rfl | rfl <;> cases d <;> simp only [tyName] <;> decide +kernel
  obtain ⟨b, hb⟩ := Option.isSome_iff_exists.mp e
  unfold isiB
  rw [hb]
  rfl
theorem isiD {K : PySem.W.Frag} {H : Hp} {v : V} {d : PyData} {T : String} {Q : VK} (h : Dp K H v d) (hT : T = "int" ∨ T = "bool" ∨ T = "str" ∨ T = "tuple" ∨ T = "list" ∨ T = "dict") (q : Q (.bl (isiB d T)) H) : rIsi K [v, .ty T] H Q :=
  ⟨v, .ty T, .type (tyName d), .type T, _, rfl, .ty T, tyX_of h, kit_ty (kit_isi d T hT), q⟩
theorem isi_tuple (d : PyData) : isiB d "tuple" = (match d with | .tuple _ => true | _ => false) := by
  cases d <;> simp only [isiB, tyName] <;> decide +kernel
theorem isi_list (d : PyData) : isiB d "list" = (match d with | .list _ => true | _ => false) := by
  cases d <;> simp only [isiB, tyName] <;> decide +kernel
theorem isi_int (d : PyData) : isiB d "int" = (match d with | .int _ => true | .bool _ => true | _ => false) := by
  cases d <;> simp only [isiB, tyName] <;> decide +kernel
theorem isi_bool (d : PyData) : isiB d "bool" = (match d with | .bool _ => true | _ => false) := by
  cases d <;> simp only [isiB, tyName] <;> decide +kernel
theorem isi_str (d : PyData) : isiB d "str" = (match d with | .str _ => true | _ => false) := by
  cases d <;> simp only [isiB, tyName] <;> decide +kernel
theorem DpAll.len {K : PySem.W.Frag} {H : Hp} : ∀ {vs : List V} {ds : List PyData}, DpAll K H vs ds → vs.length = ds.length
  | _, _, .nil => rfl
  | _, _, .cons _ t => congrArg Nat.succ (DpAll.len t)
theorem dpAt {K : PySem.W.Frag} {H : Hp} : ∀ {vs : List V} {ds : List PyData} {i : Nat} {v : V}, DpAll K H vs ds → vs[i]? = some v → ∃ d, ds[i]? = some d ∧ Dp K H v d
  | _, _, _, _, .nil, h => by simp at h
  | _, _, 0, _, .cons h _, e => by simp at e; subst e; exact ⟨_, rfl, h⟩
  | _, _, i + 1, _, .cons _ t, e => by
    obtain ⟨d, h1, h2⟩ := dpAt (i := i) t (by simpa using e)
    exact ⟨d, by simpa using h1, h2⟩
theorem dpAt2 {K : PySem.W.Frag} {H : Hp} : ∀ {vs : List V} {ds : List PyData} {i : Nat} {d : PyData}, DpAll K H vs ds → ds[i]? = some d → ∃ v, vs[i]? = some v ∧ Dp K H v d
  | _, _, _, _, .nil, h => by simp at h
  | _, _, 0, _, .cons h _, e => by simp at e; subst e; exact ⟨_, rfl, h⟩
  | _, _, i + 1, _, .cons _ t, e => by
    obtain ⟨v, h1, h2⟩ := dpAt2 (i := i) t (by simpa using e)
    exact ⟨v, by simpa using h1, h2⟩
theorem sqT_same {K : PySem.W.Frag} {H H' : Hp} {a : Addr} {xs : List V} (k : Same H H') (h : SqT K H a xs) : SqT K H' a xs := by
  rcases h with (h | ⟨o, h⟩) | h
  · exact .inl (.inl (k _ _ h))
  · exact .inl (.inr ⟨o, k _ _ h⟩)
  · exact .inr h
mutual
theorem Dp.same {K : PySem.W.Frag} {H H' : Hp} (k : Same H H') : ∀ (d : PyData) (v : V), Dp K H v d → Dp K H' v d
  | .none, _, .non => .non
  | .bool b, _, .bl _ => .bl b
  | .int i, _, .int _ => .int i
  | .str x, _, .str _ => .str x
  | .list ds, _, .lst h t => .lst (Same.seq k h) (DpAll.same k ds _ t)
  | .tuple ds, _, .tup h t => .tup (sqT_same k h) (DpAll.same k ds _ t)
theorem DpAll.same {K : PySem.W.Frag} {H H' : Hp} (k : Same H H') : ∀ (ds : List PyData) (vs : List V), DpAll K H vs ds → DpAll K H' vs ds
  | [], _, .nil => .nil
  | d :: ds, _, .cons h t => .cons (Dp.same k d _ h) (DpAll.same k ds _ t)
end
/-! ### what is a number, a pair, a net -/
def isNumD : PyData → Bool
  | .int _ => true
  | _ => false
def isPairD : PyData → Bool
  | .tuple [.int _, .int _] => true
  | _ => false
def okFrom (n : Int) : Int × Int → List PyData → Bool
  | _, [] => true
  | b, .tuple [.int x, .int y] :: r => (decide (0 ≤ x ∧ x < y ∧ y < n) && HT.lexLt [b.1, b.2] [x, y]) && okFrom n (x, y) r
  | _, _ :: _ => false
def isNetD : PyData → Bool
  | .tuple [.int n, .tuple ps] => decide (0 ≤ n ∧ n ≤ 40) && okFrom n (-1, -1) ps
  | _ => false
end Ns

/-! Own layer T: nets as texts, in plain Lean. -/
namespace Ns
open PySem PySem.Spec PyProof.Rows L2 TL
def strI (k : Nat) : Str := Str.ofString (toString (k : Int))
theorem strI_facts : ∀ k, k < 41 → (strI k).length ≤ 2 ∧ 32 ∉ tl (strI k) ∧ 45 ∉ tl (strI k) ∧ 58 ∉ tl (strI k) := by decide +kernel
/-- the number that figures tell -/
def numS (t : Str) : Option Nat := (List.range 41).find? fun k => decide (t = strI k)
theorem numS_strI : ∀ k, k < 41 → numS (strI k) = some k := by decide +kernel
theorem numS_some {t : Str} {k : Nat} (h : numS t = some k) : k < 41 ∧ t = strI k := by
  unfold numS at h
  have h1 := List.mem_of_find?_eq_some h
  have h2 := List.find?_some h
  exact ⟨List.mem_range.mp h1, of_decide_eq_true h2⟩
def blank : Str := Str.ofString " "
def minus : Str := Str.ofString "-"
def colon : Str := Str.ofString ":"
def wordOf (p : Nat × Nat) : Str := strI p.1 ++ minus ++ strI p.2
/-- the text of a net, as the program glues it -/
def textOf (n : Nat) (ties : List (Nat × Nat)) : Str := strI n ++ colon ++ Txt.join (Str.ofString "") (ties.map fun p => blank ++ strI p.1 ++ minus ++ strI p.2)
def wordM (w : Str) : Option (Nat × Nat) := match Txt.split w minus with
  | [a, b] => (match numS a, numS b with
    | some x, some y => some (x, y)
    | _, _ => none)
  | _ => none
def pairsM : List Str → Option (List (Nat × Nat))
  | [] => some []
  | w :: ws => (match wordM w, pairsM ws with
    | some p, some ps => some (p :: ps)
    | _, _ => none)
def pairD (p : Nat × Nat) : PyData := .tuple [.int p.1, .int p.2]
def netD (n : Nat) (ties : List (Nat × Nat)) : PyData := .tuple [.int n, .tuple (ties.map pairD)]
/-- the program's reading -/
def readM (t : Str) : Option (Nat × List (Nat × Nat)) :=
  if 58 ∈ tl t then
    match Txt.split t blank with
    | [] => none
    | w :: ws => if Txt.endswith w colon = true then
        (match pairsM ws, numS (cutS w none (some (-1))) with
        | some ps, some n => if isNetD (netD n ps) = true then some (n, ps) else none
        | _, _ => none)
      else none
  else none
/-- the law's own reading -/
def ownM (t : Str) : Option (Nat × List (Nat × Nat)) :=
  match Txt.split t blank with
  | [] => none
  | w :: ws => if cutS w (some (-1)) none = colon then
      (match numS (cutS w none (some (-1))) with
      | none => none
      | some n => (match pairsM ws with
        | none => none
        | some ps => if (ps.filter fun p => decide (p.1 < p.2 ∧ p.2 < n)) = ps ∧ ((List.range (ps.length - 1)).filter fun k => !HT.lexLt [(((ps.getD k (0, 0)).1 : Nat) : Int), ((ps.getD k (0, 0)).2 : Nat)] [(((ps.getD (k + 1) (0, 0)).1 : Nat) : Int), ((ps.getD (k + 1) (0, 0)).2 : Nat)]) = [] then some (n, ps) else none))
    else none
theorem lexLt2 (a b c d : Int) : HT.lexLt [a, b] [c, d] = decide (a < c ∨ a = c ∧ b < d) := by
  rw [HT.lexLt_cons, HT.lexLt_cons, HT.lexLt_nil_nil]
  by_cases h1 : a = c
  · rw [if_pos h1]
    by_cases h2 : b = d
    · rw [if_pos h2]
      exact (decide_eq_false (by omega)).symm
    · rw [if_neg h2]
      exact decide_eq_decide.mpr ⟨fun h => .inr ⟨h1, h⟩, fun h => by omega⟩
  · rw [if_neg h1]
    exact decide_eq_decide.mpr ⟨fun h => .inl h, fun h => by omega⟩
theorem okFrom_pairs (n : Nat) : ∀ (ps : List (Nat × Nat)) (b : Int × Int), okFrom n b (ps.map pairD) = true ↔
    (∀ p ∈ ps, p.1 < p.2 ∧ p.2 < n) ∧ (∀ p ∈ ps, b.1 < (p.1 : Int) ∨ b.1 = (p.1 : Int) ∧ b.2 < (p.2 : Int)) ∧ ps.Pairwise ltP
  | [], b => ⟨fun _ => ⟨fun _ h => absurd h List.not_mem_nil, fun _ h => absurd h List.not_mem_nil, List.Pairwise.nil⟩, fun _ => rfl⟩
  | p :: r, b => by
    show ((decide (0 ≤ (p.1 : Int) ∧ (p.1 : Int) < (p.2 : Int) ∧ (p.2 : Int) < n) && HT.lexLt [b.1, b.2] [(p.1 : Int), (p.2 : Int)]) && okFrom n ((p.1 : Int), (p.2 : Int)) (r.map pairD)) = true ↔ _
    rw [lexLt2, Bool.and_eq_true, Bool.and_eq_true, decide_eq_true_eq, decide_eq_true_eq, okFrom_pairs n r, List.pairwise_cons]
    constructor
    · rintro ⟨⟨h1, h2⟩, h3, h4, h5⟩
      refine ⟨fun q hq => ?_, fun q hq => ?_, fun q hq => ?_, h5⟩
      · rcases List.mem_cons.mp hq with rfl | hq
        · omega
        · exact h3 q hq
      · rcases List.mem_cons.mp hq with rfl | hq
        · exact h2
        · have h6 := h4 q hq
          dsimp only at h6
          omega
      · have h6 := h4 q hq
        dsimp only at h6
        show p.1 < q.1 ∨ p.1 = q.1 ∧ p.2 < q.2
        omega
    · rintro ⟨h3, h4, h5, h6⟩
      have h7 := h3 p (List.mem_cons_self ..)
      refine ⟨⟨by omega, h4 p (List.mem_cons_self ..)⟩, fun q hq => h3 q (List.mem_cons_of_mem _ hq), fun q hq => ?_, h6⟩
      have h8 : p.1 < q.1 ∨ p.1 = q.1 ∧ p.2 < q.2 := h5 q hq
      show (p.1 : Int) < q.1 ∨ (p.1 : Int) = q.1 ∧ (p.2 : Int) < q.2
      omega
theorem isNetD_net {n : Nat} {ps : List (Nat × Nat)} : isNetD (netD n ps) = true ↔ n ≤ 40 ∧ Good n ps := by
  show (decide (0 ≤ (n : Int) ∧ (n : Int) ≤ 40) && okFrom n (-1, -1) (ps.map pairD)) = true ↔ _
  rw [Bool.and_eq_true, decide_eq_true_eq, okFrom_pairs]
  constructor
  · rintro ⟨h1, h2, _, h3⟩
    exact ⟨by omega, h2, h3⟩
  · rintro ⟨h1, h2, h3⟩
    refine ⟨by omega, h2, fun p _ => ?_, h3⟩
    show (-1 : Int) < p.1 ∨ _
    omega
theorem ltP_trans {a b c : Nat × Nat} (h1 : ltP a b) (h2 : ltP b c) : ltP a c := by
  unfold ltP at *
  omega
theorem steps_sorted (d : Nat × Nat) : ∀ ps : List (Nat × Nat), (∀ k, k + 1 < ps.length → ltP (ps.getD k d) (ps.getD (k + 1) d)) ↔ ps.Pairwise ltP
  | [] => ⟨fun _ => List.Pairwise.nil, fun _ k h => absurd h (by simp)⟩
  | [a] => ⟨fun _ => List.pairwise_singleton .., fun _ k h => absurd h (by simp)⟩
  | a :: b :: r => by
    have ih := steps_sorted d (b :: r)
    rw [List.pairwise_cons, ← ih]
    constructor
    · intro h
      have h0 : ltP a b := h 0 (by simp)
      have ht : ∀ k, k + 1 < (b :: r).length → ltP ((b :: r).getD k d) ((b :: r).getD (k + 1) d) := fun k hk => h (k + 1) (by rw [List.length_cons]; omega)
      refine ⟨fun q hq => ?_, ht⟩
      have hp := ih.mp ht
      rcases List.mem_cons.mp hq with rfl | hq
      · exact h0
      · exact ltP_trans h0 ((List.pairwise_cons.mp hp).1 q hq)
    · rintro ⟨h1, h2⟩ k hk
      match k with
      | 0 => exact h1 b (List.mem_cons_self ..)
      | k + 1 => exact h2 k (by rw [List.length_cons] at hk; omega)
/-- the law's two tests of the pairs -/
theorem tests_good (n : Nat) (ps : List (Nat × Nat)) : ((ps.filter fun p => decide (p.1 < p.2 ∧ p.2 < n)) = ps ∧ ((List.range (ps.length - 1)).filter fun k => !HT.lexLt [(((ps.getD k (0, 0)).1 : Nat) : Int), ((ps.getD k (0, 0)).2 : Nat)] [(((ps.getD (k + 1) (0, 0)).1 : Nat) : Int), ((ps.getD (k + 1) (0, 0)).2 : Nat)]) = []) ↔ Good n ps := by
  unfold Good
  rw [← steps_sorted (0, 0), List.filter_eq_self, List.filter_eq_nil_iff]
  refine and_congr ⟨fun h p hp => of_decide_eq_true (h p hp), fun h p hp => decide_eq_true (h p hp)⟩ ?_
  constructor
  · intro h k hk
    have h1 := h k (List.mem_range.mpr (by omega))
    rw [lexLt2, Bool.not_eq_true', decide_eq_false_iff_not, Classical.not_not] at h1
    unfold ltP
    omega
  · intro h k hk
    have h1 : (ps.getD k (0, 0)).1 < (ps.getD (k + 1) (0, 0)).1 ∨ (ps.getD k (0, 0)).1 = (ps.getD (k + 1) (0, 0)).1 ∧ (ps.getD k (0, 0)).2 < (ps.getD (k + 1) (0, 0)).2 := h k (by have := List.mem_range.mp hk; omega)
    rw [lexLt2, Bool.not_eq_true', decide_eq_false_iff_not, Classical.not_not]
    omega
theorem pairsM_snoc {p : Nat × Nat} {w : Str} : ∀ {a : List Str} {ps : List (Nat × Nat)}, pairsM a = some ps → wordM w = some p → pairsM (a ++ [w]) = some (ps ++ [p])
  | [], ps, h, hw => by
    cases h
    show (match wordM w, pairsM [] with | some p, some ps => some (p :: ps) | _, _ => none) = _
    rw [hw]
    rfl
  | x :: a, ps, h, hw => by
    unfold pairsM at h
    cases e1 : wordM x with
    | none => rw [e1] at h; cases h
    | some q =>
      cases e2 : pairsM a with
      | none => rw [e1, e2] at h; cases h
      | some qs =>
        rw [e1, e2] at h
        cases h
        show (match wordM x, pairsM (a ++ [w]) with | some p, some ps => some (p :: ps) | _, _ => none) = _
        rw [e1, pairsM_snoc e2 hw]
        rfl
theorem pairsM_none {w : Str} : ∀ {a : List Str}, w ∈ a → wordM w = none → pairsM a = none
  | x :: a, h, hw => by
    unfold pairsM
    rcases List.mem_cons.mp h with rfl | h
    · rw [hw]
    · rw [pairsM_none h hw]
      cases wordM x <;> rfl
theorem wordM_two {w a b : Str} (h : Txt.split w minus = [a, b]) : wordM w = (match numS a, numS b with
    | some x, some y => some (x, y)
    | _, _ => none) := by
  unfold wordM
  rw [h]
theorem wordM_not {w : Str} (h : (Txt.split w minus).length ≠ 2) : wordM w = none := by
  unfold wordM
  split
  · rename_i e
    rw [e] at h
    exact absurd rfl h
  · rfl
theorem two_of {α : Type} {l : List α} (h : l.length = 2) : ∃ a b, l = [a, b] := by
  match l, h with
  | [a, b], _ => exact ⟨a, b, rfl⟩
theorem split_some (t : Str) : ∃ w ws, Txt.split t blank = w :: ws := by
  cases e : Txt.split t blank with
  | nil =>
    exfalso
    have h := PySem.StrLaws.join_split t blank
    rw [e] at h
    have h2 : t = Str.empty := h.symm
    subst h2
    have h3 : Txt.split Str.empty blank = [Str.empty] := by decide +kernel
    rw [h3] at e
    cases e
  | cons w ws => exact ⟨w, ws, rfl⟩
theorem readM_nocolon {t : Str} (h : 58 ∉ tl t) : readM t = none := by
  unfold readM
  rw [if_neg h]
theorem readM_noend {t w : Str} {ws : List Str} (e : Txt.split t blank = w :: ws) (h : Txt.endswith w (Str.ofString ":") = false) : readM t = none := by
  unfold readM
  rw [e]
  dsimp only
  rw [if_neg (show ¬ Txt.endswith w colon = true from fun h2 => by rw [show Txt.endswith w colon = false from h] at h2; cases h2)]
  split <;> rfl
theorem readM_nopairs {t w : Str} {ws : List Str} (e : Txt.split t blank = w :: ws) (h : pairsM ws = none) : readM t = none := by
  unfold readM
  rw [e]
  dsimp only
  rw [h]
  dsimp only
  split
  · split <;> rfl
  · rfl
theorem readM_nohead {t w : Str} {ws : List Str} (e : Txt.split t blank = w :: ws) (h : numS (cutS w none (some (-1))) = none) : readM t = none := by
  unfold readM
  rw [e]
  dsimp only
  rw [h]
  cases pairsM ws <;> (dsimp only; split; split <;> rfl; rfl)
theorem readM_all {t w : Str} {ws : List Str} {ps : List (Nat × Nat)} {n : Nat} (e : Txt.split t blank = w :: ws) (hc : 58 ∈ tl t) (he : Txt.endswith w (Str.ofString ":") = true) (hp : pairsM ws = some ps) (hn : numS (cutS w none (some (-1))) = some n) :
    readM t = if isNetD (netD n ps) = true then some (n, ps) else none := by
  unfold readM
  rw [e, if_pos hc]
  dsimp only
  rw [if_pos (show Txt.endswith w colon = true from he), hp, hn]
theorem tl_colon : tl colon = [58] := rfl
theorem tl_blank : tl blank = [32] := rfl
theorem tl_minus : tl minus = [45] := rfl
theorem ends_colon (w : Str) : Txt.endswith w colon = true ↔ cutS w (some (-1)) none = colon := by
  have e1 : (cutS w (some (-1)) none = colon) ↔ (tl w).drop ((tl w).length - 1) = [58] := by
    constructor
    · intro h
      have h1 : tl (cutS w (some (-1)) none) = [58] := by rw [h]; rfl
      unfold cutS at h1
      rw [tl_mk] at h1
      rw [← h1]
      have e2 : HT.sIx w.length 0 (some (-1)) = (tl w).length - 1 := by
        rw [len_tl]
        unfold HT.sIx
        first | omega | (simp; omega) | (simp; split <;> omega)
      have e3 : HT.sIx w.length w.length none = (tl w).length := by rw [len_tl]; rfl
      rw [e2, e3]
      exact (List.take_of_length_le (by rw [List.length_drop]; exact Nat.le_refl _)).symm
    · intro h
      refine ext_tl ?_
      rw [tl_colon, ← h]
      unfold cutS
      rw [tl_mk]
      have e2 : HT.sIx w.length 0 (some (-1)) = (tl w).length - 1 := by
        rw [len_tl]
        unfold HT.sIx
        first | omega | (simp; omega) | (simp; split <;> omega)
      have e3 : HT.sIx w.length w.length none = (tl w).length := by rw [len_tl]; rfl
      rw [e2, e3]
      exact (List.take_of_length_le (by rw [List.length_drop]; exact Nat.le_refl _))
  rw [e1]
  show (decide (0 + 1 ≤ w.length) && Builtin.Str.subAt w colon (w.length - 1)) = true ↔ _
  rw [PySem.StrLaws.subAt_eq, Bool.and_eq_true, decide_eq_true_eq, beq_iff_eq, len_tl]
  show _ ∧ ((tl w).drop ((tl w).length - 1)).take 1 = [58] ↔ _
  constructor
  · rintro ⟨h1, h2⟩
    rw [← h2]
    exact (List.take_of_length_le (by rw [List.length_drop]; omega)).symm
  · intro h
    have h1 := congrArg List.length h
    rw [List.length_drop] at h1
    have h2 : (tl w).length - ((tl w).length - 1) = 1 := h1
    refine ⟨by omega, ?_⟩
    rw [h]
    rfl
theorem mem_join {c : Nat} {S : List Nat} : ∀ {parts : List (List Nat)} {w : List Nat}, w ∈ parts → c ∈ w → c ∈ joinL S parts
  | [p], w, hw, hc => by
    rw [List.mem_singleton.mp hw] at hc
    exact hc
  | p :: q :: r, w, hw, hc => by
    show c ∈ p ++ (S ++ joinL S (q :: r))
    rcases List.mem_cons.mp hw with rfl | hw
    · exact List.mem_append.mpr (.inl hc)
    · exact List.mem_append.mpr (.inr (List.mem_append.mpr (.inr (mem_join hw hc))))
theorem mem_of_split {c : Nat} {t w : Str} (hw : w ∈ Txt.split t blank) (hc : c ∈ tl w) : c ∈ tl t := by
  have h := PySem.StrLaws.join_split t blank
  rw [← h, tl_join]
  exact mem_join (List.mem_map.mpr ⟨w, hw, rfl⟩) hc
theorem read_own (t : Str) : readM t = ownM t := by
  unfold readM ownM
  rcases e : Txt.split t blank with _ | ⟨w, ws⟩
  · by_cases h : 58 ∈ tl t <;> simp [h]
  · dsimp only
    by_cases he : cutS w (some (-1)) none = colon
    · have he2 := (ends_colon w).mpr he
      have hc : 58 ∈ tl t := by
        refine mem_of_split (w := w) (by rw [e]; exact List.mem_cons_self ..) ?_
        have h1 : tl (cutS w (some (-1)) none) = [58] := by rw [he]; rfl
        unfold cutS at h1
        rw [tl_mk] at h1
        have h2 : 58 ∈ ((w.cps.toList.drop (HT.sIx w.length 0 (some (-1)))).take (HT.sIx w.length w.length none - HT.sIx w.length 0 (some (-1)))) := by rw [h1]; exact List.mem_singleton.mpr rfl
        exact List.mem_of_mem_drop (List.mem_of_mem_take h2)
      rw [if_pos hc, if_pos he, if_pos he2]
      rcases e2 : numS (cutS w none (some (-1))) with _ | n
      · cases pairsM ws <;> rfl
      · rcases e3 : pairsM ws with _ | ps
        · rfl
        · dsimp only
          have hn := (numS_some e2).1
          by_cases hg : Good n ps
          · rw [if_pos (isNetD_net.mpr ⟨by omega, hg⟩), if_pos ((tests_good n ps).mpr hg)]
          · rw [if_neg (fun h => hg (isNetD_net.mp h).2), if_neg (fun h => hg ((tests_good n ps).mp h))]
    · rw [if_neg he, if_neg (fun h => he ((ends_colon w).mp h))]
      by_cases h : 58 ∈ tl t <;> simp [h]
theorem tl_textOf (n : Nat) (ties : List (Nat × Nat)) : tl (textOf n ties) = joinL [32] ((tl (strI n) ++ [58]) :: ties.map fun p => tl (strI p.1) ++ [45] ++ tl (strI p.2)) := by
  unfold textOf
  rw [tl_append, tl_append, join_eq, tl_join, tl_colon]
  have h : ∀ (a : List Nat) (l : List (Nat × Nat)), a ++ joinL (tl (Str.ofString "")) (List.map tl (List.map (fun p => blank ++ strI p.1 ++ minus ++ strI p.2) l)) = joinL [32] (a :: l.map fun p => tl (strI p.1) ++ [45] ++ tl (strI p.2)) := by
    intro a l
    induction l generalizing a with
    | nil => exact List.append_nil a
    | cons p r ih =>
      have e1 : joinL (tl (Str.ofString "")) (List.map tl (List.map (fun p => blank ++ strI p.1 ++ minus ++ strI p.2) (p :: r))) = tl (blank ++ strI p.1 ++ minus ++ strI p.2) ++ joinL (tl (Str.ofString "")) (List.map tl (List.map (fun p => blank ++ strI p.1 ++ minus ++ strI p.2) r)) := by
        cases r with
        | nil => exact (List.append_nil _).symm
        | cons q r => rfl
      rw [e1, tl_append, tl_append, tl_append, tl_blank, tl_minus]
      show _ = a ++ ([32] ++ joinL [32] ((tl (strI p.1) ++ [45] ++ tl (strI p.2)) :: List.map (fun p => tl (strI p.1) ++ [45] ++ tl (strI p.2)) r))
      rw [← ih]
      simp only [List.append_assoc]
  exact h _ _
theorem tl_wordOf (p : Nat × Nat) : tl (wordOf p) = tl (strI p.1) ++ [45] ++ tl (strI p.2) := by
  unfold wordOf
  rw [tl_append, tl_append, tl_minus]
theorem textOf_join (n : Nat) (ties : List (Nat × Nat)) : textOf n ties = Txt.join blank ((strI n ++ colon) :: ties.map wordOf) := by
  refine ext_tl ?_
  rw [tl_textOf, join_eq, tl_join, tl_blank, List.map_cons, tl_append, tl_colon, List.map_map]
  congr 2
  refine List.map_congr_left fun p _ => ?_
  exact (tl_wordOf p).symm
theorem wordM_of {p : Nat × Nat} (h1 : p.1 < 41) (h2 : p.2 < 41) : wordM (wordOf p) = some p := by
  have e : Txt.split (wordOf p) minus = [strI p.1, strI p.2] := by
    have e1 : wordOf p = Txt.join minus [strI p.1, strI p.2] := by
      rw [join_eq]
      rfl
    rw [e1]
    refine split_join (y := minus) (s := 45) (S := []) rfl (by decide +kernel) (by simp) fun q hq => ?_
    rcases List.mem_cons.mp hq with rfl | hq
    · exact (strI_facts p.1 h1).2.2.1
    · rw [List.mem_singleton.mp hq]
      exact (strI_facts p.2 h2).2.2.1
  unfold wordM
  rw [e]
  dsimp only
  rw [numS_strI p.1 h1, numS_strI p.2 h2]
theorem pairsM_of : ∀ {ps : List (Nat × Nat)}, (∀ p ∈ ps, p.1 < 41 ∧ p.2 < 41) → pairsM (ps.map wordOf) = some ps
  | [], _ => rfl
  | p :: r, h => by
    unfold pairsM
    rw [List.map_cons]
    dsimp only
    rw [wordM_of (h p (List.mem_cons_self ..)).1 (h p (List.mem_cons_self ..)).2, pairsM_of fun q hq => h q (List.mem_cons_of_mem _ hq)]
theorem notin_word {p : Nat × Nat} (h1 : p.1 < 41) (h2 : p.2 < 41) : 32 ∉ tl (wordOf p) := by
  rw [tl_wordOf]
  have := (strI_facts p.1 h1).2.1
  have := (strI_facts p.2 h2).2.1
  intro hm
  rcases List.mem_append.mp hm with hm | hm
  · rcases List.mem_append.mp hm with hm | hm
    · exact absurd hm (by assumption)
    · cases List.mem_singleton.mp hm
  · exact absurd hm (by assumption)
theorem cut_all (a : Str) (c : Str) (hc : (tl c).length = 1) : cutS (a ++ c) none (some (-1)) = a ∧ cutS (a ++ c) (some (-1)) none = c := by
  have el : (a ++ c).length = (tl a).length + 1 := by rw [len_tl, tl_append, List.length_append, hc]
  have e2 : HT.sIx ((tl a).length + 1) 0 (some (-1)) = (tl a).length := by
    unfold HT.sIx
    first | omega | (simp; omega) | (simp; split <;> omega)
  have e4 : HT.sIx ((tl a).length + 1) ((tl a).length + 1) (some (-1)) = (tl a).length := by
    unfold HT.sIx
    first | omega | (simp; omega) | (simp; split <;> omega)
  constructor
  · refine ext_tl ?_
    unfold cutS
    rw [tl_mk, el, e4]
    show ((tl (a ++ c)).drop 0).take ((tl a).length - 0) = _
    rw [tl_append, List.drop_zero, Nat.sub_zero, List.take_left']
    rfl
  · refine ext_tl ?_
    unfold cutS
    rw [tl_mk, el, e2]
    show ((tl (a ++ c)).drop (tl a).length).take ((tl a).length + 1 - (tl a).length) = _
    rw [tl_append, List.drop_left', List.take_of_length_le (by omega)]
    rfl
theorem read_text {n : Nat} {ties : List (Nat × Nat)} (hn : n ≤ 40) (hg : Good n ties) : readM (textOf n ties) = some (n, ties) := by
  have hb : ∀ p ∈ ties, p.1 < 41 ∧ p.2 < 41 := fun p hp => by
    have := hg.1 p hp
    omega
  have es : Txt.split (textOf n ties) blank = (strI n ++ colon) :: ties.map wordOf := by
    rw [textOf_join]
    refine split_join (y := blank) (s := 32) (S := []) rfl (by decide +kernel) (by simp) fun q hq => ?_
    rcases List.mem_cons.mp hq with rfl | hq
    · rw [tl_append, tl_colon]
      have := (strI_facts n (by omega)).2.1
      intro hm
      rcases List.mem_append.mp hm with hm | hm
      · exact absurd hm (by assumption)
      · cases List.mem_singleton.mp hm
    · obtain ⟨p, hp, rfl⟩ := List.mem_map.mp hq
      exact notin_word (hb p hp).1 (hb p hp).2
  rw [read_own]
  unfold ownM
  rw [es]
  dsimp only
  obtain ⟨c1, c2⟩ := cut_all (strI n) colon rfl
  rw [if_pos c2, c1, numS_strI n (by omega), pairsM_of hb]
  dsimp only
  rw [if_pos ((tests_good n ties).mpr hg)]
theorem join_le {b : Nat} : ∀ {parts : List (List Nat)}, (∀ p ∈ parts, p.length ≤ b) → (joinL [32] parts).length ≤ parts.length * (b + 1)
  | [], _ => Nat.zero_le _
  | [p], h => by
    have := h p (List.mem_singleton.mpr rfl)
    show p.length ≤ 1 * (b + 1)
    omega
  | p :: q :: r, h => by
    have h1 := h p (List.mem_cons_self ..)
    have h2 := join_le fun z hz => h z (List.mem_cons_of_mem p hz)
    show (p ++ ([32] ++ joinL [32] (q :: r))).length ≤ ((q :: r).length + 1) * (b + 1)
    rw [List.length_append, List.length_append, Nat.succ_mul]
    show p.length + (1 + (joinL [32] (q :: r)).length) ≤ _
    omega
theorem textOf_len {n : Nat} {ties : List (Nat × Nat)} (hn : n ≤ 40) (hg : Good n ties) : (textOf n ties).length ≤ (ties.length + 1) * 6 := by
  rw [len_tl, tl_textOf]
  have h := join_le (b := 5) (parts := (tl (strI n) ++ [58]) :: ties.map fun p => tl (strI p.1) ++ [45] ++ tl (strI p.2)) fun p hp => ?_
  · rw [List.length_cons, List.length_map] at h
    exact h
  · rcases List.mem_cons.mp hp with rfl | hp
    · have := (strI_facts n (by omega)).1
      rw [len_tl] at this
      rw [List.length_append]
      show _ + 1 ≤ 5
      omega
    · obtain ⟨q, hq, rfl⟩ := List.mem_map.mp hp
      have h0 := hg.1 q hq
      have h1 := (strI_facts q.1 (by omega)).1
      have h2 := (strI_facts q.2 (by omega)).1
      rw [len_tl] at h1 h2
      rw [List.length_append, List.length_append]
      show _ + 1 + _ ≤ 5
      omega
/-- each part of a split text is no longer than the text, and there are no more parts than signs and one -/
theorem part_le {S : List Nat} : ∀ {parts : List (List Nat)} {w : List Nat}, w ∈ parts → w.length ≤ (joinL S parts).length
  | [p], w, hw => by
    rw [List.mem_singleton.mp hw]
    exact Nat.le_refl _
  | p :: q :: r, w, hw => by
    show w.length ≤ (p ++ (S ++ joinL S (q :: r))).length
    rw [List.length_append, List.length_append]
    rcases List.mem_cons.mp hw with rfl | hw
    · omega
    · have := part_le (S := S) hw
      omega
theorem parts_le {s : Nat} : ∀ (parts : List (List Nat)), parts.length ≤ (joinL [s] parts).length + 1
  | [] => by simp
  | [p] => by simp
  | p :: q :: r => by
    show (q :: r).length + 1 ≤ (p ++ ([s] ++ joinL [s] (q :: r))).length + 1
    have := parts_le (s := s) (q :: r)
    rw [List.length_append, List.length_append]
    simp at *
    omega
theorem split_part {t w y : Str} (hw : w ∈ Txt.split t y) : w.length ≤ t.length := by
  have h := PySem.StrLaws.join_split t y
  have h2 : (tl t).length = (joinL (tl y) ((Txt.split t y).map tl)).length := by rw [← tl_join, h]
  rw [len_tl, len_tl, h2]
  exact part_le (List.mem_map.mpr ⟨w, hw, rfl⟩)
theorem split_len {t y : Str} {s : Nat} (hy : tl y = [s]) : (Txt.split t y).length ≤ t.length + 1 := by
  have h := PySem.StrLaws.join_split t y
  have h2 : (tl t).length = (joinL (tl y) ((Txt.split t y).map tl)).length := by rw [← tl_join, h]
  rw [len_tl t, h2, hy]
  have := parts_le (s := s) ((Txt.split t y).map tl)
  rw [List.length_map] at this
  exact this
end Ns

/-! Own layer G: ranges as values, x in a tuple of data, enumerate of a tuple, sorted of a tuple of pairs, pairs compared. -/
namespace Ns
open PySem PySem.Spec PyProof.Rows L2
section
variable {X : Cx} {K : PySem.W.Frag} {tg e : Expr} {te : TE}
/-- range(n) -/
theorem cr_range1 : CallR X (.type "range") (fun vs H Q => ∃ j, vs = [V.int j] ∧ ∀ p, H p = none → Q (.ref p) (upd H p (.rng 0 j))) := by
  intro pins s σ H vs us Q I r h
  obtain ⟨j, rfl, q⟩ := h
  obtain ⟨u1, rfl, t, rfl⟩ := vals1 r
  have new : ObjOk X.prog X.w (upd H s.heap.objs.size (.rng 0 j)) (s.heap.push { cls := .type "range", data := .fields #[.int 0 s.toks, .int j t, .int 1 (s.toks + 1)] }) s.heap.objs.size (.rng 0 j) :=
    ⟨s.toks, t, s.toks + 1, Heap.get?_push_size _ rfl⟩
  refine call_range_1 ⟨.ref s.heap.objs.size, upd H s.heap.objs.size (.rng 0 j), ?_, rfl, q _ (I.hok.fresh (Nat.le_refl _))⟩
  exact I.laid (t' := s.toks + 1 + 1) (fun b o e => Heap.get?_push_of_some _ e) (Nat.le_refl _) new
/-- over a range that a name holds -/
def iRngV (te : TE) : TI := fun σ H R => te σ H fun v H1 => ∃ (a : Addr) (lo hi : Int), v = .ref a ∧ H1 a = some (.rng lo hi) ∧ (-(2 ^ 62) ≤ lo ∧ lo < 2 ^ 62 ∧ -(2 ^ 62) ≤ hi ∧ hi < 2 ^ 62) ∧ R (Itr lo (hi - lo).toNat) H1
theorem pi_rngV (he : PE X e te) : PI X tg e (iRngV te) := by
  refine ⟨fun pins s σ H R I h => ?_⟩
  refine thn (he.run pins s σ H _ I h) fun u s1 ⟨v, H1, I1, rv, a, lo, hi, ev, ha, ⟨h1, h2, h3, h4⟩, q⟩ => ?_
  subst ev
  obtain rfl : u = Value.ref a := rv
  obtain ⟨t1, t2, t3, ho⟩ := I1.hok a _ ha
  refine wpAny_pyIter_range (show IsRange s1.heap a lo hi 1 t1 t2 t3 from ho) (small_one h1 h2 h3 h4) ?_
  refine ⟨s1.heap.objs.size, [s1.heap.objs.size], _, _, H1, rfl, I1.kept (t' := s1.toks) fun b o e => Heap.get?_push_of_some _ e, turn_range _ lo (hi - lo).toNat, ?_, fun b hb => ?_, q⟩
  · have e1 : lo + ((0 : Nat) : Int) * 1 = lo := by simp
    have e2 : (((hi - lo).toNat : Nat) : Int) - ((0 : Nat) : Int) = Builtin.Range.rangeSize lo hi 1 := by
      rw [rangeSize_one]
      split <;> omega
    show IsRangeIter _ _ (lo + ((0 : Nat) : Int) * 1) ((((hi - lo).toNat : Nat) : Int) - ((0 : Nat) : Int)) 1
    rw [e1, e2]
    exact Heap.get?_push_size _ rfl
  · have e : b = s1.heap.objs.size := by simpa using hb
    subst e
    exact I1.fpOk (Nat.le_refl _) (I1.hok.fresh (Nat.le_refl _))
theorem hu66 {A : Around} {k : Nat} (hr : Room k A) : A.units + 66 < cLine := by
  have := hr.un
  omega
/-- d in a tuple of data -/
def rInTD (K : PySem.W.Frag) (neg : Bool) : R2 := fun x y H Q => ∃ d ds, Dp K H x d ∧ Dp K H y (.tuple ds) ∧ SeqAt.shaped d = true ∧ SeqAt.shaped (.tuple ds) = true ∧ Q (.bl (if neg then !ds.any fun z => PyData.eqv z d else ds.any fun z => PyData.eqv z d)) H
theorem shaped_lay {d : PyData} (h : SeqAt.shaped d = true) : d.canLay0 = true ∧ d.depth ≤ 64 := by
  have h2 : (d.canLay0 && decide (d.depth ≤ 64)) = true := h
  rw [Bool.and_eq_true, decide_eq_true_eq] at h2
  exact h2
theorem op_inTDK (hK : X.K = K) (hu : X.A.units + 66 < cLine) : OpR X (compareOp .In) (rInTD K false) := by
  subst hK
  intro pins s σ H x y v u Q I rx ry h
  obtain ⟨d, ds, hd, he, sd, se, q⟩ := h
  obtain ⟨as, r1⟩ := Dp.reads I d x v hd rx
  obtain ⟨bs, r2⟩ := Dp.reads I (.tuple ds) y u he ry
  have l2 := shaped_lay sd
  exact SeqAt.in_tuple_reads r2 r1 (shaped_lay se).1 l2.1 (by omega) ⟨.bl _, H, I, rfl, q⟩
theorem op_notInTDK (hK : X.K = K) (hu : X.A.units + 66 < cLine) : OpR X (compareOp .NotIn) (rInTD K true) := by
  subst hK
  intro pins s σ H x y v u Q I rx ry h
  obtain ⟨d, ds, hd, he, sd, se, q⟩ := h
  obtain ⟨as, r1⟩ := Dp.reads I d x v hd rx
  obtain ⟨bs, r2⟩ := Dp.reads I (.tuple ds) y u he ry
  have l2 := shaped_lay sd
  exact SeqAt.notIn_tuple_reads r2 r1 (shaped_lay se).1 l2.1 (by omega) ⟨.bl _, H, I, rfl, q⟩
/-- t > u, pairs of ints -/
def rGtT (K : PySem.W.Frag) : R2 := fun x y H Q => ∃ (a b : Addr) (a0 a1 b0 b1 : Int), x = .ref a ∧ y = .ref b ∧ SqT K H a [.int a0, .int a1] ∧ SqT K H b [.int b0, .int b1] ∧ Q (.bl (decide (b0 < a0 ∨ b0 = a0 ∧ b1 < a1))) H
theorem op_gtTK (hK : X.K = K) (hu : X.A.units < cLine) : OpR X (compareOp .Gt) (rGtT K) := by
  subst hK
  intro pins s σ H x y v u Q I rx ry h
  obtain ⟨a, b, a0, a1, b0, b1, rfl, rfl, ha, hb, q⟩ := h
  cases rx
  cases ry
  obtain ⟨i1, r1, p1, _⟩ := I.tuple ha
  obtain ⟨i2, r2, p2, _⟩ := I.tuple hb
  obtain ⟨u0, u1, rfl, ⟨t0, rfl⟩, ⟨t1, rfl⟩⟩ := vals2 r1
  obtain ⟨w0, w1, rfl, ⟨y0, rfl⟩, ⟨y1, rfl⟩⟩ := vals2 r2
  have R := Ob.RcOp.tuples_gt (A := X.A) (s := s) (e := fun j => if j = 0 then a0 == b0 else a1 == b1) (r := fun j => if j = 0 then decide (b0 < a0) else decide (b1 < a1)) p1 p2 hu
    (fun j h1 h2 => match j, h1, h2 with
      | 0, _, _ => SeqAt.EqAt.int_int _ _ _ _
      | 1, _, _ => SeqAt.EqAt.int_int _ _ _ _)
    (fun j h1 h2 _ => match j, h1, h2 with
      | 0, _, _ => Ob.RcOp.gt_int _ _ _ _
      | 1, _, _ => Ob.RcOp.gt_int _ _ _ _)
  have e : Ob.lexAt (fun j => if j = 0 then a0 == b0 else a1 == b1) (fun j => if j = 0 then decide (b0 < a0) else decide (b1 < a1)) (decide ((#[Value.int a0 t0, Value.int a1 t1] : Array Value).size > (#[Value.int b0 y0, Value.int b1 y1] : Array Value).size)) 0 (min (#[Value.int a0 t0, Value.int a1 t1] : Array Value).size (#[Value.int b0 y0, Value.int b1 y1] : Array Value).size) = decide (b0 < a0 ∨ b0 = a0 ∧ b1 < a1) := by
    show (if (a0 == b0) = true then (if (a1 == b1) = true then false else decide (b1 < a1)) else decide (b0 < a0)) = _
    by_cases h0 : a0 = b0
    · by_cases h1 : a1 = b1
      · rw [if_pos (beq_iff_eq.mpr h0), if_pos (beq_iff_eq.mpr h1)]
        exact (decide_eq_false (by omega)).symm
      · rw [if_pos (beq_iff_eq.mpr h0), if_neg (fun h => h1 (beq_iff_eq.mp h))]
        exact decide_eq_decide.mpr (by omega)
    · rw [if_neg (fun h => h0 (beq_iff_eq.mp h))]
      exact decide_eq_decide.mpr (by omega)
  rw [e] at R
  exact R X.prog X.w X.xe (EP X pins σ Q) ⟨.bl _, H, I, rfl, q⟩
/-- sorted(t), t a list or tuple of pairs of points -/
def rSortedSP (K : PySem.W.Frag) : List V → Hp → VK → Prop := fun vs H Q => ∃ (a : Addr) (xs : List V) (ks : List (Nat × Nat)), vs = [V.ref a] ∧ (SqL K H a xs ∨ SqT K H a xs) ∧ Paired (Pr H) xs ks ∧
  ∀ (us : List V) (ys : List (Nat × Nat)) (p : Addr), ys.Perm ks → ys.Pairwise (fun a b => ¬ ltP b a) → Paired (Pr H) us ys → H p = none → Q (.ref p) (upd H p (.lst us))
theorem refs_of {H : Hp} : ∀ {xs : List V} {ks : List (Nat × Nat)} {us : List Value}, Paired (Pr H) xs ks → Vals xs us → ∀ u ∈ us, ∃ (t : Addr) (k : Nat × Nat), u = Value.ref t ∧ H t = some (.tup [pI k.1, pI k.2])
  | _, _, _, .nil, .nil, u, hu => by cases hu
  | _, _, _, .cons ⟨t, e, h⟩ r, .cons r1 r2, u, hu => by
    rcases List.mem_cons.mp hu with rfl | hu
    · subst e
      cases r1
      exact ⟨t, _, rfl, h⟩
    · exact refs_of r r2 u hu
theorem keys_of {H : Hp} : ∀ {xs : List V} {ks : List (Nat × Nat)} {us : List Value}, Paired (Pr H) xs ks → Vals xs us → (us.map adr).map (pk H) = ks
  | _, _, _, .nil, .nil => rfl
  | _, _, _, .cons ⟨t, e, h⟩ r, .cons r1 r2 => by
    subst e
    cases r1
    rw [List.map_cons, List.map_cons, keys_of r r2]
    congr 1
    exact pk_of h
theorem cr_sortedSP {X : Cx} {K : PySem.W.Frag} (hK : X.K = K) : CallR X (.builtin "sorted") (rSortedSP K) := by
  subst hK
  intro pins s σ H vs us Q I r h
  obtain ⟨a, xs, ks, rfl, hs, hpr0, q⟩ := h
  obtain ⟨u, rfl, rx⟩ := vals1 r
  cases rx
  obtain ⟨its, rv, T, o, n, hT, ho, hc, hd, hz⟩ : ∃ (its : List Value), Vals xs its ∧ ∃ (T : String) (o : Obj) (n : Nat), (T = "list" ∨ T = "tuple") ∧ s.heap.get? a = some o ∧ o.cls = .type T ∧ o.data = .seq its.toArray n ∧ xs.length ≤ sizeLine := by
    rcases hs with hs | hs
    · obtain ⟨its, rv, pl, hz⟩ := I.list hs
      obtain ⟨o, ho, hc, n, hd⟩ := pl.isList
      exact ⟨its, rv, _, o, n, .inl rfl, ho, hc, hd, hz⟩
    · obtain ⟨its, rv, ⟨o, ho, hc, n, hd⟩, hz⟩ := I.tuple hs
      exact ⟨its, rv, _, o, n, .inr rfl, ho, hc, hd, hz⟩
  have hil : its.length ≤ sizeLine := by rw [← rv.length]; exact hz
  refine Calls.call_function_entry PyProof.Rows.kind_sorted PyProof.Rows.plain_sorted PyProof.Rows.entry_sorted (PyProof.Rows.args_sorted1 _) ?_
  unfold Builtin.«sorted»
  refine wpAny_bind (m := checkCount "sorted" 1 1 _) (wpAny_pure ?_)
  refine wpAny_bind (wpAny_collect_seq a hT ho hc hd (hsz := by simpa using hil) fun h' hk => ?_)
  rw [show its.toArray.toList = its from rfl]
  have I1 : Inv X pins σ H { s with heap := h' } := I.kept (t' := s.toks) hk
  refine wpAny_bind (wpAny_newList ?_ hil)
  have hoL : (h'.push (seqObj "list" its.toArray 0)).get? h'.objs.size = some (seqObj "list" its.toArray 0) := Heap.get?_push_size _ rfl
  have hxs := refs_of hpr0 rv
  have hp : ∀ v ∈ its, Srt.IsPair (h'.push (seqObj "list" its.toArray 0)) v (pkI H (adr v)).1 (pkI H (adr v)).2 := fun v hv => by
    obtain ⟨t, k, rfl, ht⟩ := hxs v hv
    obtain ⟨_, its2, r2, o, ho, hc, n, hd⟩ := I1.hok _ _ ht
    obtain ⟨u1, u2, rfl, ⟨t1, rfl⟩, ⟨t2, rfl⟩⟩ := vals2 r2
    show Srt.IsPair _ _ (pkI H t).1 (pkI H t).2
    rw [pkI_of ht]
    exact ⟨t, o, t1, t2, n, rfl, Heap.get?_push_of_some _ ho, hc, hd⟩
  show wpAny _ _ _ _ _ { s with heap := h'.push (seqObj "list" its.toArray 0) }
  have hsort : ∀ out, SrtO.Srtd (fun v u => SrtO.lexB (pkI H (adr v)) (pkI H (adr u))) out → SrtO.Stb (fun v u => SrtO.lexB (pkI H (adr v)) (pkI H (adr u))) out its → True := fun _ _ _ => trivial
  refine wpAny_bind (wpAny_holding (wpAny_call_entry PyProof.Rows.slot_list_sort ⟨_, hoL, rfl⟩ PyProof.Rows.entry_list_sort
    (SrtO.list_sort_ord (s := { s with heap := h'.push (seqObj "list" its.toArray 0) }) (SrtO.swo_lex fun u => pkI H (adr u)) hoL hil (fun h2 => SrtO.pairs_sortableO (by omega) hp fun o e => ?_) fun out h1 h2 => ⟨_, rfl, ?_⟩) (PyProof.Rows.args_list_sort _)))
  · have e' : some o = some (seqObj "list" its.toArray 0) := e.symm.trans hoL
    cases e'
    intro c
    exact absurd (Value.type.inj c) (by decide)
  · obtain ⟨e', he'⟩ := PyProof.Rows.sortedHeap_at (vs := its) (out := out.toArray) hoL
    have hout : ∀ u ∈ out, ∃ (t : Addr) (k : Nat × Nat), u = Value.ref t ∧ H t = some (.tup [pI k.1, pI k.2]) := fun u hu => hxs u (h2.perm.mem_iff.mp hu)
    have ebs : (out.map adr).map Value.ref = out := by
      rw [List.map_map]
      refine (List.map_congr_left fun u hu => ?_).trans (List.map_id _)
      obtain ⟨t, k, rfl, _⟩ := hout u hu
      rfl
    have hpr : Paired (Pr H) ((out.map adr).map V.ref) ((out.map adr).map (pk H)) := pMapL _ _ _ fun t ht => by
      obtain ⟨u, hu, rfl⟩ := List.mem_map.mp ht
      obtain ⟨t, k, rfl, hk2⟩ := hout u hu
      exact ⟨t, rfl, by rw [show adr (.ref t) = t from rfl, pk_of hk2]; exact hk2⟩
    have hperm : ((out.map adr).map (pk H)).Perm ks := by
      rw [← keys_of hpr0 rv]
      exact (h2.perm.map adr).map (pk H)
    have hsrt : ((out.map adr).map (pk H)).Pairwise (fun a b => ¬ ltP b a) := by
      rw [List.pairwise_map, List.pairwise_map]
      refine List.Pairwise.imp_of_mem (fun {u v} hu hv e => ?_) h1
      obtain ⟨t, k, rfl, hk2⟩ := hout u hu
      obtain ⟨t', k', rfl, hk3⟩ := hout v hv
      have e : SrtO.lexB (pkI H t') (pkI H t) = false := e
      show ¬ ltP (pk H t') (pk H t)
      rw [pk_of hk2, pk_of hk3]
      rw [pkI_of hk2, pkI_of hk3] at e
      have e2 := SrtO.lexB_no.mp e
      unfold ltP
      intro c
      exact e2 (show ((k'.1 : Int) < k.1 ∨ (k'.1 : Int) = k.1 ∧ (k'.2 : Int) < k.2) by omega)
    have hlen : ((out.map adr).map V.ref).length ≤ sizeLine := by
      rw [List.length_map, List.length_map, h2.len]
      exact hil
    have hv : Vals ((out.map adr).map V.ref) out := by
      have := vals_refs (out.map adr)
      rwa [ebs] at this
    have new : ObjOk X.prog X.w (upd H h'.objs.size (.lst ((out.map adr).map V.ref))) (sortedHeap (h'.push (seqObj "list" its.toArray 0)) h'.objs.size its out.toArray) h'.objs.size (.lst ((out.map adr).map V.ref)) := ⟨hlen, out, e', hv, he'⟩
    refine wpAny_pure ⟨_, rfl, .ref h'.objs.size, upd H h'.objs.size (.lst ((out.map adr).map V.ref)), I1.laid (t' := s.toks) (fun b u e => ?_) (Nat.le_refl _) new, rfl, q _ _ _ hperm hsrt hpr (I1.hok.fresh (Nat.le_refl _))⟩
    have hb : b < h'.objs.size := Heap.lt_size e
    rw [PyProof.Rows.sortedHeap_old (Nat.ne_of_lt hb) (by rw [size_push']; exact Nat.lt_succ_of_lt hb)]
    exact Heap.get?_push_of_some _ e
end
end Ns

/-! Own layer U: pairs and nets as data that are compared. -/
namespace Ns
open PySem PySem.Spec PyProof.Rows L2
theorem dps_pairs {K : PySem.W.Frag} {H : Hp} : ∀ {vs : List V} {ps : List (Nat × Nat)}, Paired (Pr H) vs ps → DpAll K H vs (ps.map pairD)
  | _, _, .nil => .nil
  | _, _, .cons ⟨t, e, h⟩ r => by
    subst e
    exact .cons (.tup (SqT.of h) (.cons (.int _) (.cons (.int _) .nil))) (dps_pairs r)
theorem dp_pair {K : PySem.W.Frag} {H : Hp} {v : V} {p : Nat × Nat} (h : Pr H v p) : Dp K H v (pairD p) := by
  obtain ⟨t, e, h⟩ := h
  subst e
  exact .tup (SqT.of h) (.cons (.int _) (.cons (.int _) .nil))
theorem dp_net {K : PySem.W.Frag} {H : Hp} {v : V} {n : Nat} {ties : List (Nat × Nat)} (x : Net H v n ties) : Dp K H v (netD n ties) := by
  obtain ⟨t, u, rfl, h, t2, vs, rfl, h2, pr⟩ := x
  exact .tup (SqT.of h) (.cons (.int _) (.cons (.tup (SqT.of h2) (dps_pairs pr)) .nil))
theorem pairs_flat : ∀ ps : List (Nat × Nat), PyData.canLayAll0 (ps.map pairD) = true ∧ PyData.depthAll (ps.map pairD) ≤ 3
  | [] => ⟨rfl, by decide⟩
  | p :: r => by
    obtain ⟨h1, h2⟩ := pairs_flat r
    refine ⟨?_, ?_⟩
    · show (true && PyData.canLayAll0 (r.map pairD)) = true
      rw [h1]
      rfl
    · have : PyData.depth (pairD p) ≤ 3 := by simp [pairD, PyData.depth, PyData.depthAll]
      simp only [List.map_cons, PyData.depthAll]
      omega
theorem sh_pair (p : Nat × Nat) : SeqAt.shaped (pairD p) = true := rfl
theorem sh_pairsT (ps : List (Nat × Nat)) : SeqAt.shaped (.tuple (ps.map pairD)) = true := by
  obtain ⟨h1, h2⟩ := pairs_flat ps
  have d : (PyData.tuple (ps.map pairD)).depth ≤ 6 := by
    simp only [PyData.depth]
    omega
  show (PyData.canLayAll0 (ps.map pairD) && decide _) = true
  rw [h1, decide_eq_true (by omega)]
  rfl
theorem sh_pairsL (ps : List (Nat × Nat)) : SeqAt.shaped (.list (ps.map pairD)) = true := sh_pairsT ps
theorem sh_net (n : Nat) (ps : List (Nat × Nat)) : SeqAt.shaped (netD n ps) = true := by
  obtain ⟨h1, h2⟩ := pairs_flat ps
  have d : (netD n ps).depth ≤ 8 := by
    simp only [netD, PyData.depth, PyData.depthAll]
    omega
  show ((true && (PyData.canLayAll0 (ps.map pairD) && true)) && decide _) = true
  rw [h1, decide_eq_true (by omega)]
  rfl
theorem eqv_pairD (a b : Nat × Nat) : PyData.eqv (pairD a) (pairD b) = decide (a = b) := by
  obtain ⟨a1, a2⟩ := a
  obtain ⟨b1, b2⟩ := b
  simp only [pairD, PyData.eqv, PyData.eqvAll, Bool.and_true]
  rw [Bool.eq_iff_iff]
  simp
  omega
theorem any_pairD (q : Nat × Nat) : ∀ ps : List (Nat × Nat), ((ps.map pairD).any fun z => PyData.eqv z (pairD q)) = decide (q ∈ ps)
  | [] => by simp
  | p :: r => by
    rw [List.map_cons, List.any_cons, any_pairD q r, eqv_pairD, Bool.eq_iff_iff, Bool.or_eq_true, decide_eq_true_eq, decide_eq_true_eq, decide_eq_true_eq, List.mem_cons]
    exact ⟨fun h => h.elim (fun e => .inl e.symm) .inr, fun h => h.elim (fun e => .inl e.symm) .inr⟩
theorem eqv_pairsD : ∀ as bs : List (Nat × Nat), PyData.eqvAll (as.map pairD) (bs.map pairD) = decide (as = bs)
  | [], [] => rfl
  | [], _ :: _ => rfl
  | _ :: _, [] => rfl
  | a :: as, b :: bs => by
    rw [List.map_cons, List.map_cons, PyData.eqvAll, eqv_pairD, eqv_pairsD as bs, Bool.eq_iff_iff]
    simp
theorem eqv_sh {d : PyData} (h : SeqAt.shaped d = true) : PyData.eqv d d = true := SeqAt.eqv_refl d (shaped_lay h).1
theorem eqv_netD (n m : Nat) (as bs : List (Nat × Nat)) : PyData.eqv (netD n as) (netD m bs) = decide (n = m ∧ as = bs) := by
  show (((n : Int) == (m : Int)) && (PyData.eqvAll (as.map pairD) (bs.map pairD) && true)) = _
  rw [eqv_pairsD, Bool.and_true, Bool.eq_iff_iff]
  simp
  omega
end Ns

/-! Own layer So: sorted of a list, or a tuple, of data. -/
namespace Ns
open PySem PySem.Spec PyProof.Rows L2
theorem dpAll_pairs {K : PySem.W.Frag} {H : Hp} : ∀ {L : List (V × PyData)}, (∀ p ∈ L, Dp K H p.1 p.2) → DpAll K H (L.map (·.1)) (L.map (·.2))
  | [], _ => .nil
  | p :: L, h => .cons (h p (List.mem_cons_self ..)) (dpAll_pairs fun q hq => h q (List.mem_cons_of_mem _ hq))
theorem each_pairs : ∀ {L : List (V × PyData)} {us : List Value}, Vals (L.map (·.1)) us → PySem.W.EachIs (fun u (p : V × PyData) => RelV p.1 u) us L
  | [], _, .nil => .nil
  | _ :: _, _, .cons a t => .cons a (each_pairs t)
theorem pairs_each : ∀ {us : List Value} {L : List (V × PyData)}, PySem.W.EachIs (fun u (p : V × PyData) => RelV p.1 u) us L → Vals (L.map (·.1)) us
  | _, _, .nil => .nil
  | _, _, .cons a t => .cons a (pairs_each t)
theorem each_reads {X : Cx} {pins : List (Addr × Obj)} {σ : L2.St} {H : Hp} {s : Shared} (I : Inv X pins σ H s) : ∀ {L : List (V × PyData)} {us : List Value}, (∀ p ∈ L, Dp X.K H p.1 p.2) → Vals (L.map (·.1)) us → PySem.W.EachIs (fun u (p : V × PyData) => ∃ as, Reads s.heap u p.2 as) us L
  | [], _, _, .nil => .nil
  | p :: L, _, h, .cons a t => .cons (Dp.reads I _ _ _ (h p (List.mem_cons_self ..)) a) (each_reads I (fun q hq => h q (List.mem_cons_of_mem _ hq)) t)
/-- sorted(xs), xs a list or tuple of data -/
def rSortedD (K : PySem.W.Frag) : List V → Hp → VK → Prop := fun vs H Q => ∃ (a : Addr) (L : List (V × PyData)), vs = [V.ref a] ∧ (SqL K H a (L.map (·.1)) ∨ SqT K H a (L.map (·.1))) ∧ (∀ p ∈ L, Dp K H p.1 p.2) ∧
  PySem.W.AllAlike (L.map (·.2)) ∧ PySem.W.Sortable (L.map (·.2)) ∧ (∀ p ∈ L, p.2.depth ≤ 40) ∧
  ∀ (p : Addr), H p = none → Q (.ref p) (upd H p (.lst ((L.mergeSort (PySem.W.dataLe false (·.2))).map (·.1))))
theorem cr_sortedDa {X : Cx} {K : PySem.W.Frag} (hK : X.K = K) (hu : X.A.units + 60 < cLine) : CallR X (.builtin "sorted") (rSortedD K) := by
  subst hK
  intro pins s σ H vs us Q I r h
  obtain ⟨a, L, rfl, hs, hd2, hal, hso, hdep, q⟩ := h
  obtain ⟨u, rfl, rx⟩ := vals1 r
  cases rx
  obtain ⟨its, rv, T, o, n, hT, ho, hc, hd, hz⟩ : ∃ (its : List Value), Vals (L.map (·.1)) its ∧ ∃ (T : String) (o : Obj) (n : Nat), (T = "list" ∨ T = "tuple") ∧ s.heap.get? a = some o ∧ o.cls = .type T ∧ o.data = .seq its.toArray n ∧ (L.map (·.1)).length ≤ sizeLine := by
    rcases hs with hs | hs
    · obtain ⟨its, rv, pl, hz⟩ := I.list hs
      obtain ⟨o, ho, hc, n, hd⟩ := pl.isList
      exact ⟨its, rv, _, o, n, .inl rfl, ho, hc, hd, hz⟩
    · obtain ⟨its, rv, ⟨o, ho, hc, n, hd⟩, hz⟩ := I.tuple hs
      exact ⟨its, rv, _, o, n, .inr rfl, ho, hc, hd, hz⟩
  have hil : its.length ≤ sizeLine := by rw [← rv.length]; exact hz
  refine Calls.call_function_entry PyProof.Rows.kind_sorted PyProof.Rows.plain_sorted PyProof.Rows.entry_sorted (PyProof.Rows.args_sorted1 _) ?_
  unfold Builtin.«sorted»
  refine wpAny_bind (m := checkCount "sorted" 1 1 _) (wpAny_pure ?_)
  refine wpAny_bind (wpAny_collect_seq a hT ho hc hd (hsz := by simpa using hil) fun h' hk => ?_)
  rw [show its.toArray.toList = its from rfl]
  have I1 : Inv X pins σ H { s with heap := h' } := I.kept (t' := s.toks) hk
  refine wpAny_bind (wpAny_newList ?_ hil)
  have hoL : (h'.push (seqObj "list" its.toArray 0)).get? h'.objs.size = some (seqObj "list" its.toArray 0) := Heap.get?_push_size _ rfl
  show wpAny _ _ _ _ _ { s with heap := h'.push (seqObj "list" its.toArray 0) }
  have er : PySem.W.EachIs (fun u (p : V × PyData) => ∃ as, Reads (PySem.W.sortingHeap (h'.push (seqObj "list" its.toArray 0)) h'.objs.size its) u p.2 as) its L :=
    (each_reads I1 hd2 rv).mono fun u p ⟨as, h⟩ => ⟨as, PyProof.Rows.Reads.keeps (fun b o e => PySem.W.sortingHeap_old (Nat.ne_of_lt (Heap.lt_size e)) (Heap.get?_push_of_some _ e)) h⟩
  have S := PySem.W.SortsAt.data (prog := X.prog) (w := X.w) (A := X.A.in1.in1) (s := { s with heap := PySem.W.sortingHeap (h'.push (seqObj "list" its.toArray 0)) h'.objs.size its }) (PySem.W.each_map (R := fun v d => ∃ as, Reads (PySem.W.sortingHeap (h'.push (seqObj "list" its.toArray 0)) h'.objs.size its) v d as) (fun p : V × PyData => p.2) er) hal hso (PySem.W.bound_map (A := X.A.in1.in1) fun p hp => by
    have := hdep p hp
    show X.A.units + 2 + p.2.depth < cLine
    omega)
  refine wpAny_bind (wpAny_holding (wpAny_call_entry PyProof.Rows.slot_list_sort ⟨_, hoL, rfl⟩ PyProof.Rows.entry_list_sort
    (PySem.W.list_sort_vals (s := { s with heap := h'.push (seqObj "list" its.toArray 0) }) hoL S hil ⟨_, rfl, ?_⟩) (PyProof.Rows.args_list_sort _)))
  have eo := PySem.W.sortVals_data false (each_pairs rv) er hal
  generalize (PySem.W.sortVals (PySem.W.dataKind (PySem.W.sortingHeap (h'.push (seqObj "list" its.toArray 0)) h'.objs.size its) (L.map fun p => p.2)) false its its) = out at eo
  obtain ⟨e', he'⟩ := PyProof.Rows.sortedHeap_at (vs := its) (out := out.toArray) hoL
  have hlen : ((L.mergeSort (PySem.W.dataLe false (·.2))).map (·.1)).length ≤ sizeLine := by
    rw [List.length_map, List.length_mergeSort]
    rwa [List.length_map] at hz
  have new : ObjOk X.prog X.w (upd H h'.objs.size (.lst ((L.mergeSort (PySem.W.dataLe false (·.2))).map (·.1)))) (sortedHeap (h'.push (seqObj "list" its.toArray 0)) h'.objs.size its out.toArray) h'.objs.size (.lst ((L.mergeSort (PySem.W.dataLe false (·.2))).map (·.1))) := ⟨hlen, out, e', pairs_each eo, he'⟩
  refine wpAny_pure ⟨_, rfl, .ref h'.objs.size, upd H h'.objs.size (.lst ((L.mergeSort (PySem.W.dataLe false (·.2))).map (·.1))), I1.laid (t' := s.toks) (fun b u e => ?_) (Nat.le_refl _) new, rfl, q _ (I1.hok.fresh (Nat.le_refl _))⟩
  have hb : b < h'.objs.size := Heap.lt_size e
  rw [PyProof.Rows.sortedHeap_old (Nat.ne_of_lt hb) (by rw [size_push']; exact Nat.lt_succ_of_lt hb)]
  exact Heap.get?_push_of_some _ e
theorem hu60 {A : Around} {k : Nat} (hr : Room k A) : A.units + 60 < cLine := by have := hr.un; omega
end Ns

/-! Own layer W: neighbours, in plain Lean and in the heap. -/
namespace Ns
open PySem PySem.Spec PyProof.Rows L2
def nbL (n : Nat) (T : Tm) (x : Nat) : List Nat := (List.range n).filter fun y => T x y
theorem mem_nbL {n : Nat} {T : Tm} {x y : Nat} : y ∈ nbL n T x ↔ y < n ∧ T x y = true := by
  unfold nbL
  rw [List.mem_filter, List.mem_range]
theorem nbL_len (n : Nat) (T : Tm) (x : Nat) : (nbL n T x).length ≤ n := by
  have := List.length_filter_le (fun y => T x y) (List.range n)
  rw [List.length_range] at this
  exact this
def accL (ties : List (Nat × Nat)) (x : Nat) : List Nat := ties.flatMap fun p => (if p.1 = x then [p.2] else []) ++ (if p.2 = x then [p.1] else [])
theorem mem_accL {ties : List (Nat × Nat)} {x y : Nat} : y ∈ accL ties x ↔ (x, y) ∈ ties ∨ (y, x) ∈ ties := by
  unfold accL
  rw [List.mem_flatMap]
  constructor
  · rintro ⟨⟨a, b⟩, hp, h⟩
    rcases List.mem_append.mp h with h | h
    · by_cases e : a = x
      · rw [if_pos e] at h
        rw [List.mem_singleton.mp h, ← e]
        exact .inl hp
      · rw [if_neg e] at h
        cases h
    · by_cases e : b = x
      · rw [if_pos e] at h
        rw [List.mem_singleton.mp h, ← e]
        exact .inr hp
      · rw [if_neg e] at h
        cases h
  · rintro (h | h)
    · exact ⟨(x, y), h, List.mem_append.mpr (.inl (by rw [if_pos rfl]; exact List.mem_singleton.mpr rfl))⟩
    · exact ⟨(y, x), h, List.mem_append.mpr (.inr (by rw [if_pos rfl]; exact List.mem_singleton.mpr rfl))⟩
theorem accL_nodup (x : Nat) : ∀ {ties : List (Nat × Nat)}, ties.Nodup → (∀ p ∈ ties, p.1 < p.2) → (accL ties x).Nodup
  | [], _, _ => .nil
  | (a, b) :: r, hn, hl => by
    have hn := List.nodup_cons.mp hn
    have hab : a < b := hl (a, b) (List.mem_cons_self ..)
    have ih := accL_nodup x hn.2 fun p hp => hl p (List.mem_cons_of_mem _ hp)
    have e : accL ((a, b) :: r) x = ((if a = x then [b] else []) ++ (if b = x then [a] else [])) ++ accL r x := rfl
    rw [e]
    by_cases h1 : a = x
    · have h2 : b ≠ x := by omega
      rw [if_pos h1, if_neg h2]
      refine List.nodup_cons.mpr ⟨fun h => ?_, ih⟩
      have h : b ∈ accL r x := h
      rcases mem_accL.mp h with h | h
      · exact hn.1 (by rw [h1]; exact h)
      · have := hl _ (List.mem_cons_of_mem _ h)
        dsimp only at this
        omega
    · rw [if_neg h1]
      by_cases h2 : b = x
      · rw [if_pos h2]
        refine List.nodup_cons.mpr ⟨fun h => ?_, ih⟩
        have h : a ∈ accL r x := h
        rcases mem_accL.mp h with h | h
        · have := hl _ (List.mem_cons_of_mem _ h)
          dsimp only at this
          omega
        · exact hn.1 (by rw [h2]; exact h)
      · rw [if_neg h2]
        exact ih
theorem accL_snoc (ties : List (Nat × Nat)) (p : Nat × Nat) (x : Nat) : accL (ties ++ [p]) x = accL ties x ++ ((if p.1 = x then [p.2] else []) ++ (if p.2 = x then [p.1] else [])) := by
  unfold accL
  rw [List.flatMap_append]
  simp
theorem sorted_uniq : ∀ {as bs : List Int}, as.Pairwise (· < ·) → bs.Pairwise (· < ·) → (∀ k, k ∈ as ↔ k ∈ bs) → as = bs
  | [], [], _, _, _ => rfl
  | [], b :: bs, _, _, h => absurd ((h b).mpr (List.mem_cons_self ..)) List.not_mem_nil
  | a :: as, [], _, _, h => absurd ((h a).mp (List.mem_cons_self ..)) List.not_mem_nil
  | a :: as, b :: bs, ha, hb, h => by
    have ha := List.pairwise_cons.mp ha
    have hb := List.pairwise_cons.mp hb
    have e : a = b := by
      rcases List.mem_cons.mp ((h a).mp (List.mem_cons_self ..)) with e | e
      · exact e
      · rcases List.mem_cons.mp ((h b).mpr (List.mem_cons_self ..)) with e2 | e2
        · exact e2.symm
        · have := ha.1 b e2
          have := hb.1 a e
          omega
    subst e
    rw [sorted_uniq ha.2 hb.2 fun k => ?_]
    constructor
    · intro hk
      rcases List.mem_cons.mp ((h k).mp (List.mem_cons_of_mem _ hk)) with e | e
      · have := ha.1 k hk
        omega
      · exact e
    · intro hk
      rcases List.mem_cons.mp ((h k).mpr (List.mem_cons_of_mem _ hk)) with e | e
      · have := hb.1 k hk
        omega
      · exact e
/-- what sorted makes of unlike ints with given members -/
theorem sorted_is {as : List Int} {xs bs : List Nat} (pm : as.Perm (xs.map fun x : Nat => (x : Int))) (so : as.Pairwise (· ≤ ·)) (nd : xs.Nodup) (hb : bs.Pairwise (· < ·)) (h : ∀ k, k ∈ xs ↔ k ∈ bs) : as = bs.map fun x : Nat => (x : Int) := by
  have nda : as.Nodup := pm.nodup_iff.mpr (by
    rw [List.Nodup, List.pairwise_map]
    exact nd.imp fun {a b} h e => h (by omega))
  have sa : as.Pairwise (· < ·) := (so.and nda).imp fun {a b} h => by
    have h1 := h.1
    have h2 := h.2
    omega
  have sb : (bs.map fun x : Nat => (x : Int)).Pairwise (· < ·) := by
    rw [List.pairwise_map]
    exact hb.imp fun {a b} h => by omega
  refine sorted_uniq sa sb fun k => ?_
  rw [pm.mem_iff, List.mem_map, List.mem_map]
  exact ⟨fun ⟨a, ha, e⟩ => ⟨a, (h a).mp ha, e⟩, fun ⟨a, ha, e⟩ => ⟨a, (h a).mpr ha, e⟩⟩
theorem range_lt (n : Nat) : (List.range n).Pairwise (· < ·) := List.pairwise_lt_range
theorem nbL_sorted (n : Nat) (T : Tm) (x : Nat) : (nbL n T x).Pairwise (· < ·) := (range_lt n).filter _
theorem nbL_nodup (n : Nat) (T : Tm) (x : Nat) : (nbL n T x).Nodup := (nbL_sorted n T x).imp fun {a b} h e => by omega
theorem cr_sortedIK {X : Cx} {K : PySem.W.Frag} (hK : X.K = K) : CallR X (.builtin "sorted") (rSortedI K) := by
  subst hK
  exact cr_sortedI
/-- lists of points -/
structure LN (H : Hp) (m : Addr) (rows : List Addr) (ls : List (List Nat)) : Prop where
  top : H m = some (.lst (rows.map V.ref))
  nd : rows.Nodup
  ne : m ∉ rows
  pr : Paired (fun a l => H a = some (.lst (l.map pI))) rows ls
theorem LN.same {H H' : Hp} {m : Addr} {rows : List Addr} {ls : List (List Nat)} (x : LN H m rows ls) (k : Same H H') : LN H' m rows ls := by
  refine ⟨k _ _ x.top, x.nd, x.ne, ?_⟩
  have h := x.pr
  clear x
  induction h with
  | nil => exact .nil
  | cons a b ih => exact .cons (k _ _ a) ih
theorem LN.at_ {H : Hp} {m : Addr} {rows : List Addr} {ls : List (List Nat)} (x : LN H m rows ls) {i : Nat} {l : List Nat} (h : ls[i]? = some l) : ∃ a, rows[i]? = some a ∧ H a = some (.lst (l.map pI)) := by
  obtain ⟨a, ha, h2⟩ := pAt x.pr h
  exact ⟨a, ha, h2⟩
theorem paired_set {H : Hp} {a : Addr} {l' : List Nat} : ∀ {rows : List Addr} {ls : List (List Nat)} {i : Nat}, rows.Nodup → Paired (fun a l => H a = some (.lst (l.map pI))) rows ls → rows[i]? = some a →
    Paired (fun b l => (upd H a (.lst (l'.map pI))) b = some (.lst (l.map pI))) rows (ls.set i l')
  | [], [], i, _, .nil, h => by cases h
  | b :: rows, l :: ls, 0, hn, .cons h1 h2, h => by
    have e : b = a := Option.some.inj h
    subst e
    refine .cons upd_same ?_
    have hn2 := (List.nodup_cons.mp hn).1
    clear h h1 hn
    induction h2 with
    | nil => exact .nil
    | cons x y ih =>
      simp only [List.mem_cons, not_or] at hn2
      refine .cons ?_ (ih hn2.2)
      rw [upd_ne (fun e => hn2.1 e.symm)]
      exact x
  | b :: rows, l :: ls, i + 1, hn, .cons h1 h2, h => by
    have hn := List.nodup_cons.mp hn
    have hm : a ∈ rows := List.mem_of_getElem? (i := i) h
    refine .cons ?_ (paired_set hn.2 h2 h)
    rw [upd_ne (fun e => hn.1 (by rw [e]; exact hm))]
    exact h1
theorem LN.put {H : Hp} {m a : Addr} {rows : List Addr} {ls : List (List Nat)} {i : Nat} {l' : List Nat} (x : LN H m rows ls) (ha : rows[i]? = some a) : LN (upd H a (.lst (l'.map pI))) m rows (ls.set i l') ∧ Out rows H (upd H a (.lst (l'.map pI))) := by
  have hm : a ∈ rows := List.mem_of_getElem? ha
  refine ⟨⟨?_, x.nd, x.ne, paired_set x.nd x.pr ha⟩, fun b o h hb => ?_⟩
  · rw [upd_ne (fun e => x.ne (by rw [e]; exact hm))]
    exact x.top
  · rw [upd_ne (fun e => hb (by rw [e]; exact hm))]
    exact h
/-- the neighbours of all points -/
def Adj (H : Hp) (m : Addr) (n : Nat) (T : Tm) : Prop := ∃ rows, LN H m rows ((List.range n).map (nbL n T))
theorem Adj.same {H H' : Hp} {m : Addr} {n : Nat} {T : Tm} (x : Adj H m n T) (k : Same H H') : Adj H' m n T := by
  obtain ⟨rows, h⟩ := x
  exact ⟨rows, h.same k⟩
theorem Adj.top {H : Hp} {m : Addr} {n : Nat} {T : Tm} (x : Adj H m n T) : ∃ us, H m = some (.lst us) ∧ us.length = n := by
  obtain ⟨rows, h⟩ := x
  refine ⟨_, h.top, ?_⟩
  have := h.pr.length
  simpa using this
theorem rdA {K : PySem.W.Frag} {H : Hp} {m : Addr} {n x : Nat} {T : Tm} {σ : L2.St} {Q : VK} {i j : Nat} (A : Adj H m n T) (hm : σ[i]? = some (some (.ref m))) (hx : σ[j]? = some (some (.int (x : Int)))) (lx : x < n)
    (q : ∀ a, H a = some (.lst ((nbL n T x).map pI)) → Q (.ref a) H) : tOp (rIxL K) (tVar i) (tVar j) σ H Q := by
  obtain ⟨rows, h⟩ := A
  obtain ⟨a, ha, hr⟩ := h.at_ (i := x) (l := nbL n T x) (by simp [lx])
  refine ⟨_, hm, _, hx, _, _, _, .ref a, rfl, rfl, SqL.of h.top, atI_nat (j := x) ?_, q a hr⟩
  rw [List.getElem?_map, ha]
  rfl
/-- the same, the neighbours known at an earlier heap -/
theorem rdA2 {K : PySem.W.Frag} {H H' : Hp} {m : Addr} {n x : Nat} {T : Tm} {σ : L2.St} {Q : VK} {i j : Nat} (A : Adj H m n T) (s : Same H H') (hm : σ[i]? = some (some (.ref m))) (hx : σ[j]? = some (some (.int (x : Int)))) (lx : x < n)
    (q : ∀ a, H a = some (.lst ((nbL n T x).map pI)) → Q (.ref a) H') : tOp (rIxL K) (tVar i) (tVar j) σ H' Q := by
  obtain ⟨rows, h⟩ := A
  obtain ⟨a, ha, hr⟩ := h.at_ (i := x) (l := nbL n T x) (by simp [lx])
  refine ⟨_, hm, _, hx, _, _, _, .ref a, rfl, rfl, SqL.of (s _ _ h.top), atI_nat (j := x) ?_, q a hr⟩
  rw [List.getElem?_map, ha]
  rfl
end Ns

/-! Own layer Co: small lemmas that many texts want. -/
namespace Ns
open PySem PySem.Spec PyProof.Rows L2
/-- a slice of a tuple -/
theorem slC {K : PySem.W.Frag} {H : Hp} {t : Addr} {xs : List V} {lo hi : Option Int} {Q : VK} (ht : SqT K H t xs) (q : ∀ (r : Addr) H', Same H H' → SqT K H' r (cutV xs lo hi) → Q (.ref r) H') : rSlA K (.ref t) lo hi H Q := by
  refine ⟨t, xs, rfl, ht, fun hw => ?_, fun _ p hp => q p _ (same_laid hp) (SqT.of upd_same)⟩
  refine q t H (Same.refl H) ?_
  unfold cutV
  rw [hw.1, hw.2, List.drop_zero, Nat.sub_zero, List.take_length]
  exact ht
theorem inVC (x : Nat) : ∀ r : List Nat, inV (pI x) (r.map pI) = decide (x ∈ r)
  | [] => rfl
  | y :: r => by
    have h := inVC x r
    show (((y : Int) == (x : Int)) || inV (pI x) (r.map pI)) = _
    rw [h, Bool.eq_iff_iff, Bool.or_eq_true, beq_iff_eq, decide_eq_true_eq, decide_eq_true_eq, List.mem_cons]
    exact ⟨fun h => h.elim (fun e => .inl (by omega)) .inr, fun h => h.elim (fun e => .inl (by omega)) .inr⟩
theorem flatC (r : List Nat) : (r.map pI).all flatV = true := List.all_eq_true.mpr fun v hv => by
  obtain ⟨z, _, rfl⟩ := List.mem_map.mp hv
  rfl
theorem has_memC {n : Nat} {kvs : DT} {ks : List (Nat × Nat)} (ka : KeysAre n kvs ks) (p : Nat × Nat) : hasP kvs p = true ↔ p ∈ ks := by
  rw [show hasP kvs p = kvs.any (fun kv => decide (kv.1 = key p)) from (valV_any _ _).symm, List.any_eq_true]
  constructor
  · rintro ⟨kv, h1, h2⟩
    have h2 := of_decide_eq_true h2
    have h3 : kv.1 ∈ ks.map key := by rw [← ka.1]; exact List.mem_map.mpr ⟨kv, h1, rfl⟩
    obtain ⟨q, hq, e⟩ := List.mem_map.mp h3
    rw [key_inj (h2.symm.trans e.symm)]
    exact hq
  · intro h
    have h3 : key p ∈ kvs.map (·.1) := by rw [ka.1]; exact List.mem_map.mpr ⟨p, h, rfl⟩
    obtain ⟨kv, h1, e⟩ := List.mem_map.mp h3
    exact ⟨kv, h1, decide_eq_true e⟩
/-- the i-th key of a dict of pairs -/
theorem keyAtC {n : Nat} {kvs : DT} {ks : List (Nat × Nat)} (ka : KeysAre n kvs ks) {i : Nat} {ky : List Key} {vv : V} (hkv : kvs[i]? = some (ky, vv)) : ∃ p, ks[i]? = some p ∧ ky = key p := by
  have h1 : (kvs.map (·.1))[i]? = some ky := by rw [List.getElem?_map, hkv]; rfl
  rw [ka.1, List.getElem?_map] at h1
  cases e : ks[i]? with
  | none => rw [e] at h1; cases h1
  | some p =>
    rw [e] at h1
    exact ⟨p, rfl, (Option.some.inj h1).symm⟩
theorem KeysAre.kvLen {n : Nat} {kvs : DT} {ks : List (Nat × Nat)} (ka : KeysAre n kvs ks) : kvs.length = ks.length := by
  have := congrArg List.length ka.1
  rwa [List.length_map, List.length_map] at this
theorem take_next {α : Type} {l : List α} {i : Nat} {x : α} (h : l[i]? = some x) : l.take (i + 1) = l.take i ++ [x] := by rw [List.take_add_one, h]; rfl
theorem rgV_C (n : Nat) : rgV 0 (n : Int) = (List.range n).map pI := by
  unfold rgV
  rw [show ((n : Int) - 0).toNat = n by omega]
  exact List.map_congr_left fun i _ => congrArg V.int (Int.zero_add _)
theorem cr_anyK {X : Cx} {K : PySem.W.Frag} (hK : X.K = K) (hc : X.calm = true) : CallR X (.builtin "any") (rAny K) := by subst hK; exact cr_any hc
theorem cr_allK {X : Cx} {K : PySem.W.Frag} (hK : X.K = K) (hc : X.calm = true) : CallR X (.builtin "all") (rAll K) := by subst hK; exact cr_all hc
/-- no argument more -/
theorem tnil_in {σ : L2.St} {H : Hp} {Q : List V → Hp → Prop} (h : Q [] H) : tNil σ H Q := h
/-- a tuple of points -/
def PtC (H : Hp) (v : V) (c : List Nat) : Prop := ∃ t, v = .ref t ∧ H t = some (.tup (c.map pI))
theorem persPtC : PersT PtC := fun _ _ _ _ k ⟨t, e, h⟩ => ⟨t, e, k _ _ h⟩
theorem atI_map {l : List Nat} {i a : Nat} (h : l[i]? = some a) : atI (l.map pI) (i : Int) = some (pI a) := atI_nat (by rw [List.getElem?_map, h]; rfl)
theorem map_at {l : List Nat} {i : Nat} {v : V} (h : (l.map pI)[i]? = some v) : ∃ a, l[i]? = some a ∧ v = pI a := by
  rw [List.getElem?_map] at h
  obtain ⟨a, h1, h2⟩ := Option.map_eq_some_iff.mp h
  exact ⟨a, h1, h2.symm⟩
theorem cat_tup {K : PySem.W.Frag} {H : Hp} {a b : Addr} {c d : List Nat} {Q : VK} (ha : H a = some (.tup (c.map pI))) (hb : H b = some (.tup (d.map pI))) (hl : c.length + d.length ≤ sizeLine) (q : ∀ t H', Same H H' → H' t = some (.tup ((c ++ d).map pI)) → Q (.ref t) H') : rCatA K (.ref a) (.ref b) H Q := by
  refine ⟨a, b, _, _, rfl, rfl, SqT.of ha, SqT.of hb, by rw [List.length_map, List.length_map]; exact hl, fun e => ?_, fun _ e => ?_, fun _ _ p hp => ?_⟩
  · refine q b H (Same.refl H) ?_
    rw [hb, List.map_append, e]
    rfl
  · refine q a H (Same.refl H) ?_
    rw [ha, List.map_append, e, List.append_nil]
  · refine q p _ (same_laid hp) ?_
    rw [upd_same, List.map_append]
section
variable {α β : Type} {g : TG} {tt : TT} {te : TE} {vs : List Nat} {σ : L2.St} {H1 : Hp} {D : Addr} {Qd : Hp → Prop}
/-- over a tuple of data -/
theorem comp_sqt {K : PySem.W.Frag} {a : Addr} {us : List V} {ds : List α} {Rs : Hp → V → α → Prop} (hRs : PersT Rs) (f : α → Option β) {R : Hp → V → β → Prop} (hR : PersT R) (hD : H1 D = none)
    (hl : SqT K H1 a us) (hn : us.length < sizeLine) (hp : Paired (Rs H1) us ds)
    (hs : ∀ (d : α) (x : V) (H : Hp) (Yes : V → Hp → Prop) (No : Hp → Prop), d ∈ ds → Rs H x d → Same H1 H → (∀ a, f d = some a → ∀ y H4, Same H H4 → R H4 y a → Yes y H4) → (f d = none → ∀ H4, Same H H4 → No H4) →
      g x (wipe σ vs) H fun σ2 H2 => wipe σ2 vs = wipe σ vs ∧ tt σ2 H2 fun b H3 => if b = true then te σ2 H3 Yes else No H3)
    (hd : ∀ H ys, Same H1 H → H D = some (.lst ys) → Paired (R H) ys (ds.filterMap f) → Qd H) :
    ∃ W : Nat → Nat → Hp → Prop, (∃ m, W 0 m (upd H1 D (.lst []))) ∧ ∀ i m H, W i m H →
      ((Itt K a).stop i H ∧ Qd H) ∨ ((Itt K a).go i H ∧ ∃ Nx : Hp → Prop, (∀ H', Nx H' → ∃ m', m' < m ∧ W (i + 1) m' H') ∧ ∀ x H', (Itt K a).yld i H x H' → g x (wipe σ vs) H' fun σ2 H2 => wipe σ2 vs = wipe σ vs ∧ tt σ2 H2 fun b H3 =>
        if b = true then te σ2 H3 fun y H4 => ∃ acc, H4 D = some (.lst acc) ∧ acc.length < sizeLine ∧ Nx (upd H4 D (.lst (acc ++ [y]))) else Nx H3) := by
  have hlen := hp.length
  refine lc_tup (K := K) (a := a) (xs := us) (fun i H => Same H1 H ∧ ∃ ys, H D = some (.lst ys) ∧ Paired (R H) ys ((ds.take i).filterMap f)) ⟨same_laid hD, [], upd_same, by simpa using Paired.nil⟩ (fun i H _ p => sqT_same p.1 hl) ?_ ?_
  · rintro i x H hi ⟨sm, ys, hy, pr⟩
    obtain ⟨d, hat, hrs⟩ := pAtL hp hi
    have hll : ys.length < sizeLine := by
      have := pr.length
      have h2 := List.length_filterMap_le f (ds.take i)
      have h3 : (ds.take i).length ≤ ds.length := by rw [List.length_take]; omega
      omega
    refine hs d x H _ _ (List.mem_of_getElem? hat) (hRs _ _ _ _ (sKt sm) hrs) sm (fun a ha y H4 s4 r4 => ?_) (fun ha H4 s4 => ?_)
    · refine ⟨ys, s4 _ _ hy, hll, sPut (sm.trans s4) hD, ys ++ [y], upd_same, ?_⟩
      rw [filterMap_take_succ hat, ha]
      have k : KeepT H4 (upd H4 D (.lst (ys ++ [y]))) := KeepT.lst (s4 _ _ hy)
      exact pApp (pMono hR (KeepT.trans (sKt s4) k) pr) (.cons (hR _ _ _ _ k r4) .nil)
    · refine ⟨sm.trans s4, ys, s4 _ _ hy, ?_⟩
      rw [filterMap_take_succ hat, ha]
      simpa using pMono hR (sKt s4) pr
  · rintro H ⟨sm, ys, hy, pr⟩
    rw [hlen, List.take_of_length_le (Nat.le_refl _)] at pr
    exact hd H ys sm hy pr
theorem fm_filtC (p : Nat → Bool) : ∀ l : List Nat, l.filterMap (fun y => if p y = true then some y else none) = l.filter p
  | [] => rfl
  | a :: l => by
    cases e : p a with
    | true => rw [List.filterMap_cons_some (b := a) (by rw [if_pos e]), List.filter_cons_of_pos e, fm_filtC p l]
    | false => rw [List.filterMap_cons_none (by rw [if_neg (by rw [e]; decide)]), List.filter_cons_of_neg (by rw [e]; decide), fm_filtC p l]
theorem pairPtC (H : Hp) : ∀ xs : List Nat, Paired (Pt H) (xs.map pI) xs
  | [] => .nil
  | _ :: xs => .cons rfl (pairPtC H xs)
theorem pairPtC_eq {H : Hp} : ∀ {us : List V} {xs : List Nat}, Paired (Pt H) us xs → us = xs.map pI
  | _, _, .nil => rfl
  | _, _, .cons h t => by rw [show _ = pI _ from h, pairPtC_eq t]; rfl
/-- [z for z in list if ..], the list one of points -/
theorem comp_filtL {K : PySem.W.Frag} {a : Addr} {xs : List Nat} (p : Nat → Bool) (hD : H1 D = none) (hl : SqL K H1 a (xs.map pI)) (hn : xs.length ≤ 16000000)
    (hs : ∀ (z : Nat) (H : Hp) (Yes : V → Hp → Prop) (No : Hp → Prop), z ∈ xs → Same H1 H → (p z = true → ∀ H4, Same H H4 → Yes (pI z) H4) → (p z = false → ∀ H4, Same H H4 → No H4) →
      g (pI z) (wipe σ vs) H fun σ2 H2 => wipe σ2 vs = wipe σ vs ∧ tt σ2 H2 fun b H3 => if b = true then te σ2 H3 Yes else No H3)
    (hd : ∀ H, Same H1 H → H D = some (.lst ((xs.filter p).map pI)) → Qd H) :
    ∃ W : Nat → Nat → Hp → Prop, (∃ m, W 0 m (upd H1 D (.lst []))) ∧ ∀ i m H, W i m H →
      ((Itl K a).stop i H ∧ Qd H) ∨ ((Itl K a).go i H ∧ ∃ Nx : Hp → Prop, (∀ H', Nx H' → ∃ m', m' < m ∧ W (i + 1) m' H') ∧ ∀ x H', (Itl K a).yld i H x H' → g x (wipe σ vs) H' fun σ2 H2 => wipe σ2 vs = wipe σ vs ∧ tt σ2 H2 fun b H3 =>
        if b = true then te σ2 H3 fun y H4 => ∃ acc, H4 D = some (.lst acc) ∧ acc.length < sizeLine ∧ Nx (upd H4 D (.lst (acc ++ [y]))) else Nx H3) := by
  refine comp_list (K := K) persPt (fun z : Nat => if p z = true then some z else none) persPt hD hl (by rw [List.length_map]; exact sizeBig hn) (pairPtC _ _) ?_ ?_
  · rintro z zv H Yes No hz rfl s yes no
    refine hs z H Yes No hz s (fun h H4 s4 => yes z (if_pos h) _ _ s4 rfl) fun h H4 s4 => no (if_neg (by rw [h]; decide)) _ s4
  · intro H ys s hy pr
    rw [fm_filtC] at pr
    have e := pairPtC_eq pr
    subst e
    exact hd H s hy
theorem comp_filtT {K : PySem.W.Frag} {a : Addr} {xs : List Nat} (p : Nat → Bool) (hD : H1 D = none) (hl : SqT K H1 a (xs.map pI)) (hn : xs.length ≤ 16000000)
    (hs : ∀ (z : Nat) (H : Hp) (Yes : V → Hp → Prop) (No : Hp → Prop), z ∈ xs → Same H1 H → (p z = true → ∀ H4, Same H H4 → Yes (pI z) H4) → (p z = false → ∀ H4, Same H H4 → No H4) →
      g (pI z) (wipe σ vs) H fun σ2 H2 => wipe σ2 vs = wipe σ vs ∧ tt σ2 H2 fun b H3 => if b = true then te σ2 H3 Yes else No H3)
    (hd : ∀ H, Same H1 H → H D = some (.lst ((xs.filter p).map pI)) → Qd H) :
    ∃ W : Nat → Nat → Hp → Prop, (∃ m, W 0 m (upd H1 D (.lst []))) ∧ ∀ i m H, W i m H →
      ((Itt K a).stop i H ∧ Qd H) ∨ ((Itt K a).go i H ∧ ∃ Nx : Hp → Prop, (∀ H', Nx H' → ∃ m', m' < m ∧ W (i + 1) m' H') ∧ ∀ x H', (Itt K a).yld i H x H' → g x (wipe σ vs) H' fun σ2 H2 => wipe σ2 vs = wipe σ vs ∧ tt σ2 H2 fun b H3 =>
        if b = true then te σ2 H3 fun y H4 => ∃ acc, H4 D = some (.lst acc) ∧ acc.length < sizeLine ∧ Nx (upd H4 D (.lst (acc ++ [y]))) else Nx H3) := by
  refine comp_sqt (K := K) persPt (fun z : Nat => if p z = true then some z else none) persPt hD hl (by rw [List.length_map]; exact sizeBig hn) (pairPtC _ _) ?_ ?_
  · rintro z zv H Yes No hz rfl s yes no
    refine hs z H Yes No hz s (fun h H4 s4 => yes z (if_pos h) _ _ s4 rfl) fun h H4 s4 => no (if_neg (by rw [h]; decide)) _ s4
  · intro H ys s hy pr
    rw [fm_filtC] at pr
    have e := pairPtC_eq pr
    subst e
    exact hd H s hy
theorem bools_eqC : ∀ {us : List V} {bs : List Bool}, Paired (fun v b => v = V.bl b) us bs → us = bs.map V.bl
  | _, _, .nil => rfl
  | _, _, .cons h t => by rw [show _ = V.bl _ from h, bools_eqC t]; rfl
theorem sqL_same {K : PySem.W.Frag} {H H' : Hp} {a : Addr} {xs : List V} (k : Same H H') (h : SqL K H a xs) : SqL K H' a xs := k.seq h
end
end Ns

/-! Own layer: rows of points sorted; the law's own search for strong sets, in plain Lean. -/
namespace Ns
open PySem PySem.Spec PyProof.Rows L2
open PySem.W (keyToksAll keyToks)
/-- a row of points as data -/
def datN (l : List Nat) : PyData := .tuple (l.map fun x : Nat => .int (x : Int))
def leN : List Nat → List Nat → Bool := PySem.W.dataLe false datN
def sortN (L : List (List Nat)) : List (List Nat) := L.mergeSort leN
theorem leN_total : PySem.W.TotalLe leN := PySem.W.sortLe_total _ false _
theorem toks_inj : ∀ {a b : List Nat}, keyToksAll (a.map fun x : Nat => PyData.int (x : Int)) = keyToksAll (b.map fun x : Nat => PyData.int (x : Int)) → a = b
  | [], [], _ => rfl
  | [], y :: b, h => by
    simp [keyToksAll] at h
  | x :: a, [], h => by
    simp [keyToksAll] at h
  | x :: a, y :: b, h => by
    simp only [List.map_cons, keyToksAll, keyToks, List.cons_append, List.nil_append, List.cons.injEq, true_and] at h
    obtain ⟨h1, h2⟩ := h
    have e : (x : Int) = y := Sum.inl.inj h1
    rw [toks_inj h2]
    congr 1
    omega
theorem leN_anti {a b : List Nat} (h : leN a b = true) (g : leN b a = true) : a = b := by
  have h : (!(PyProof.Rows.listOrd PyProof.Rows.itemOrd).blt (keyToks (datN b)) (keyToks (datN a))) = true := h
  have g : (!(PyProof.Rows.listOrd PyProof.Rows.itemOrd).blt (keyToks (datN a)) (keyToks (datN b))) = true := g
  rw [Bool.not_eq_true'] at h g
  exact toks_inj ((PyProof.Rows.listOrd PyProof.Rows.itemOrd).total (keyToks (datN a)) (keyToks (datN b)) g h)
theorem sortN_perm {L M : List (List Nat)} (h : L.Perm M) : sortN L = sortN M := by
  have h1 := PySem.W.sort_pairwise leN_total L
  have h2 := PySem.W.sort_pairwise leN_total M
  have pm : (sortN L).Perm (sortN M) := ((List.mergeSort_perm L leN).trans h).trans (List.mergeSort_perm M leN).symm
  exact pm.eq_of_pairwise (fun a b _ _ h g => leN_anti h g) h1 h2
theorem alike_ints : ∀ l m : List Nat, PySem.W.alikeAll (l.map fun x : Nat => PyData.int (x : Int)) (m.map fun x : Nat => PyData.int (x : Int)) = true
  | [], _ => by simp [PySem.W.alikeAll]
  | _ :: _, [] => by simp [PySem.W.alikeAll]
  | _ :: l, _ :: m => by
    rw [List.map_cons, List.map_cons, PySem.W.alikeAll, alike_ints l m]
    rfl
/-- sorted of a list, or tuple, of rows of points -/
theorem srtPts {K : PySem.W.Frag} {H : Hp} {a : Addr} {us : List V} {L : List (List Nat)} {Q : VK} (hs : SqL K H a us ∨ SqT K H a us) (pr : Paired (PtC H) us L) (ne : ∀ l ∈ L, l ≠ []) (q : ∀ (p : Addr) (zs : List V) H', Same H H' → H p = none → H' p = some (.lst zs) → Paired (PtC H') zs (sortN L) → Q (.ref p) H') : rSortedD K [.ref a] H Q := by
  have zl : us.length = L.length := pr.length
  let Z : List (V × List Nat) := us.zip L
  have z1 : Z.map (·.1) = us := List.map_fst_zip (by omega)
  have z2 : Z.map (·.2) = L := List.map_snd_zip (by omega)
  have zp : ∀ z ∈ Z, PtC H z.1 z.2 := fun z hz => by
    have go : ∀ {us : List V} {L : List (List Nat)}, Paired (PtC H) us L → ∀ z ∈ us.zip L, PtC H z.1 z.2 := fun {us L} pr => by
      induction pr with
      | nil => intro z hz; cases hz
      | cons h t ih =>
        intro z hz
        rcases List.mem_cons.mp hz with e | hz
        · rw [e]
          exact h
        · exact ih z hz
    exact go pr z hz
  have zl2 : ∀ z ∈ Z, z.2 ∈ L := fun z hz => by rw [← z2]; exact List.mem_map.mpr ⟨z, hz, rfl⟩
  let D : List (V × PyData) := Z.map fun z => (z.1, datN z.2)
  have d1 : D.map (·.1) = us := by
    show (Z.map _).map _ = us
    rw [List.map_map]
    exact z1
  have d2 : D.map (·.2) = L.map datN := by
    show (Z.map _).map _ = _
    rw [List.map_map, ← z2, List.map_map]
    rfl
  refine ⟨a, D, rfl, by rw [d1]; exact hs, fun p hp => ?_, ?_, ?_, fun p hp => ?_, fun p hp => ?_⟩
  · obtain ⟨z, hz, rfl⟩ := List.mem_map.mp hp
    obtain ⟨t, e, ht⟩ := zp z hz
    show Dp K H z.1 (datN z.2)
    rw [e]
    refine .tup (SqT.of ht) ?_
    generalize z.2 = l
    induction l with
    | nil => exact .nil
    | cons x l ih => exact .cons (.int _) ih
  · rw [d2]
    intro x hx y hy
    obtain ⟨l, _, rfl⟩ := List.mem_map.mp hx
    obtain ⟨m, _, rfl⟩ := List.mem_map.mp hy
    exact alike_ints l m
  · rw [d2]
    refine .inl fun x hx => ?_
    obtain ⟨l, hl, rfl⟩ := List.mem_map.mp hx
    cases l with
    | nil => exact absurd rfl (ne _ hl)
    | cons y l => exact ⟨_, _, rfl⟩
  · obtain ⟨z, hz, rfl⟩ := List.mem_map.mp hp
    show (datN z.2).depth ≤ 40
    have : ∀ l : List Nat, PyData.depthAll (l.map fun x : Nat => PyData.int (x : Int)) ≤ 0 := fun l => by
      induction l with
      | nil => simp [PyData.depthAll]
      | cons x l ih => simp [PyData.depthAll, PyData.depth] at ih ⊢; exact ih
    have := this z.2
    simp only [datN, PyData.depth]
    omega
  · have e : (D.mergeSort (PySem.W.dataLe false (·.2))).map (·.1) = (Z.mergeSort fun x y => leN x.2 y.2).map (·.1) := by
      have : (Z.mergeSort fun x y => leN x.2 y.2).map (fun z => (z.1, datN z.2)) = D.mergeSort (PySem.W.dataLe false (·.2)) := PySem.W.sort_maps (fun z : V × List Nat => (z.1, datN z.2)) fun a _ b _ => rfl
      rw [← this, List.map_map]
      rfl
    have e2 : (Z.mergeSort fun x y => leN x.2 y.2).map (·.2) = sortN L := by
      rw [← z2]
      exact PySem.W.sort_maps (fun z : V × List Nat => z.2) fun a _ b _ => rfl
    rw [e]
    have x1 := same_laid (o := .lst ((Z.mergeSort fun x y => leN x.2 y.2).map (·.1))) hp
    refine q p _ _ x1 hp upd_same ?_
    rw [← e2]
    have all : ∀ z ∈ Z.mergeSort fun x y => leN x.2 y.2, PtC H z.1 z.2 := fun z hz => zp z ((List.mergeSort_perm Z _).mem_iff.mp hz)
    exact pMapL _ _ _ fun z hz => persPtC _ _ _ _ (sKt x1) (all z hz)
/-! ### the law's own search -/
theorem mem_lotsN : ∀ (ps l : List Nat), l ∈ lotsN ps ↔ l.Sublist ps := fun ps => by
  induction ps using snoc_ind with
  | h0 =>
    intro l
    rw [show lotsN [] = [[]] from rfl, List.mem_singleton, List.sublist_nil]
  | h1 ps x ih =>
    intro l
    rw [lotsN_snoc, List.mem_append, List.mem_map]
    constructor
    · rintro (h | ⟨m, hm, rfl⟩)
      · exact ((ih l).mp h).trans (List.sublist_append_left ..)
      · exact ((ih m).mp hm).append (List.Sublist.refl _)
    · intro h
      obtain ⟨l1, l2, rfl, h1, h2⟩ := List.sublist_append_iff.mp h
      cases h2 with
      | cons _ h2 =>
        have := List.sublist_nil.mp h2
        subst this
        left
        rw [List.append_nil]
        exact (ih l1).mpr h1
      | cons_cons _ h2 =>
        have := List.sublist_nil.mp h2
        subst this
        exact .inr ⟨l1, (ih l1).mpr h1, rfl⟩
theorem lotsN_nodup : ∀ ps : List Nat, ps.Nodup → (lotsN ps).Nodup := fun ps => by
  induction ps using snoc_ind with
  | h0 => intro _; exact List.nodup_cons.mpr ⟨(fun h => nomatch h), List.nodup_nil⟩
  | h1 ps x ih =>
    intro nd
    obtain ⟨n1, _, n3⟩ := List.nodup_append.mp nd
    rw [lotsN_snoc]
    refine List.nodup_append.mpr ⟨ih n1, ?_, fun l hl m hm e => ?_⟩
    · rw [List.Nodup, List.pairwise_map]
      exact (ih n1).imp fun h e => h (List.append_cancel_right e)
    · obtain ⟨m', _, rfl⟩ := List.mem_map.mp hm
      have hx : x ∈ l := by rw [e]; simp
      exact n3 x (((mem_lotsN ps l).mp hl).subset hx) x (by simp) rfl
/-- the two meet, and none lies within the other -/
def lapB (a b : List Nat) : Bool := decide (0 < (a.filter fun x => decide (x ∈ b)).length) && (decide ((a.filter fun x => decide (x ∈ b)).length < a.length) && decide ((a.filter fun x => decide (x ∈ b)).length < b.length))
theorem filt_lt (q : Nat → Bool) (xs : List Nat) : (xs.filter q).length < xs.length ↔ ∃ a ∈ xs, q a = false := by
  have h := List.length_filter_le q xs
  constructor
  · intro g
    apply Classical.byContradiction
    intro hn
    have : xs.filter q = xs := List.filter_eq_self.mpr fun a ha => by
      cases e : q a with
      | true => rfl
      | false => exact absurd ⟨a, ha, e⟩ hn
    rw [this] at g
    omega
  · rintro ⟨a, ha, e⟩
    apply Classical.byContradiction
    intro hn
    have e2 := List.filter_sublist.eq_of_length (show (xs.filter q).length = xs.length by omega)
    rw [← e2] at ha
    rw [(List.mem_filter.mp ha).2] at e
    cases e
theorem both_len {a b : List Nat} (na : a.Nodup) (nb : b.Nodup) : (a.filter fun x => decide (x ∈ b)).length = (b.filter fun x => decide (x ∈ a)).length := by
  have pm : (a.filter fun x => decide (x ∈ b)).Perm (b.filter fun x => decide (x ∈ a)) := (List.perm_ext_iff_of_nodup (na.filter _) (nb.filter _)).mpr fun x => by
    rw [List.mem_filter, List.mem_filter, decide_eq_true_eq, decide_eq_true_eq]
    exact And.comm
  exact pm.length_eq
theorem lapB_iff {P a b : List Nat} (na : a.Nodup) (nb : b.Nodup) (sa : ∀ x ∈ a, x ∈ P) (sb : ∀ x ∈ b, x ∈ P) : lapB a b = true ↔ Lap P (· ∈ a) (· ∈ b) := by
  unfold lapB Lap
  rw [Bool.and_eq_true, Bool.and_eq_true, decide_eq_true_eq, decide_eq_true_eq, decide_eq_true_eq, filt_lt, both_len na nb, filt_lt, ← both_len na nb, List.length_pos_iff_exists_mem]
  constructor
  · rintro ⟨⟨x, hx⟩, ⟨y, hy, e⟩, z, hz, e2⟩
    obtain ⟨h1, h2⟩ := List.mem_filter.mp hx
    exact ⟨⟨x, sa x h1, h1, of_decide_eq_true h2⟩, ⟨y, sa y hy, hy, of_decide_eq_false e⟩, z, sb z hz, hz, of_decide_eq_false e2⟩
  · rintro ⟨⟨x, _, h1, h2⟩, ⟨y, _, h3, h4⟩, z, _, h5, h6⟩
    exact ⟨⟨x, List.mem_filter.mpr ⟨h1, decide_eq_true h2⟩⟩, ⟨y, h3, decide_eq_false h4⟩, z, h5, decide_eq_false h6⟩
/-- alike sets, found by going through all sets (q says which are alike) -/
def alikeL (q : List Nat → Bool) (n : Nat) : List (List Nat) := (lotsN (List.range n)).filter fun l => !l.isEmpty && q l
def strongL (q : List Nat → Bool) (n : Nat) : List (List Nat) := (alikeL q n).filter fun l => ((alikeL q n).filter (lapB l)).isEmpty
theorem strong_perm {T : Nat → Nat → Bool} {q : List Nat → Bool} {n : Nat} (hq : ∀ l : List Nat, l.Sublist (List.range n) → (q l = true ↔ Md T (List.range n) (· ∈ l))) {d : PyData} {S : List (List Nat)} (m : MTr T (List.range n) d S) : S.Perm (strongL q n) := by
  have ndr : (List.range n).Nodup := List.nodup_range
  have nds : (strongL q n).Nodup := ((lotsN_nodup _ ndr).filter _).filter _
  refine (List.perm_ext_iff_of_nodup m.nodup nds).mpr fun l => ?_
  have al : ∀ l, l ∈ alikeL q n ↔ l.Sublist (List.range n) ∧ l ≠ [] ∧ Md T (List.range n) (· ∈ l) := fun l => by
    unfold alikeL
    rw [List.mem_filter, mem_lotsN, Bool.and_eq_true]
    constructor
    · rintro ⟨h1, h2, h3⟩
      exact ⟨h1, (fun e => by rw [e] at h2; cases h2), (hq l h1).mp h3⟩
    · rintro ⟨h1, h2, h3⟩
      refine ⟨h1, ?_, (hq l h1).mpr h3⟩
      cases l with
      | nil => exact absurd rfl h2
      | cons _ _ => rfl
  have st : l ∈ strongL q n ↔ l ∈ alikeL q n ∧ ((alikeL q n).filter (lapB l)).isEmpty = true := List.mem_filter
  rw [m.sets l, st, al, List.isEmpty_iff, List.filter_eq_nil_iff]
  constructor
  · rintro ⟨h1, h2⟩
    refine ⟨⟨h1, (fun e => ?_), h2.md⟩, fun o ho g => ?_⟩
    · obtain ⟨x, _, hx⟩ := h2.ne
      rw [e] at hx
      cases hx
    · obtain ⟨o1, o2, o3⟩ := (al o).mp ho
      exact h2.no _ o3 ((lapB_iff (ndr.sublist h1) (ndr.sublist o1) (fun x hx => h1.subset hx) fun x hx => o1.subset hx).mp g)
  · rintro ⟨⟨h1, h2, h3⟩, h4⟩
    refine ⟨h1, h3, ?_, fun M hM lp => ?_⟩
    · obtain ⟨x, hx⟩ := List.exists_mem_of_ne_nil l h2
      exact ⟨x, h1.subset hx, hx⟩
    · -- M as a row
      let o : List Nat := (List.range n).filter fun x => @decide (M x) (Classical.propDecidable _)
      have mo : ∀ x ∈ List.range n, x ∈ o ↔ M x := fun x hx => by
        rw [List.mem_filter, @decide_eq_true_iff _ (Classical.propDecidable _)]
        exact ⟨fun h => h.2, fun h => ⟨hx, h⟩⟩
      have so : o.Sublist (List.range n) := List.filter_sublist
      have mdo : Md T (List.range n) (· ∈ o) := fun z hz nz a ha b hb ua ub => hM z hz (fun k => nz ((mo z hz).mpr k)) a ha b hb ((mo a ha).mp ua) ((mo b hb).mp ub)
      obtain ⟨⟨x, hx, x1, x2⟩, ⟨y, hy, y1, y2⟩, z, hz, z1, z2⟩ := lp
      refine h4 o ((al o).mpr ⟨so, fun e => ?_, mdo⟩) ((lapB_iff (ndr.sublist h1) (ndr.sublist so) (fun x hx => h1.subset hx) fun x hx => so.subset hx).mpr ⟨⟨x, hx, x1, (mo x hx).mpr x2⟩, ⟨y, hy, y1, fun k => y2 ((mo y hy).mp k)⟩, z, hz, (mo z hz).mpr z1, z2⟩)
      have := (mo x hx).mpr x2
      rw [e] at this
      cases this
end Ns

/-! Own layer, plain: there is one tree of some points. -/
namespace Ns
open PySem PySem.Spec PyProof.Rows L2
/-- ordered lists with the same members -/
theorem ord_ext {α : Type} {r : α → α → Prop} (as_ : ∀ a b, r a b → ¬ r b a) : ∀ {as bs : List α}, as.Pairwise r → bs.Pairwise r → (∀ x, x ∈ as ↔ x ∈ bs) → as = bs
  | [], [], _, _, _ => rfl
  | [], b :: bs, _, _, h => absurd ((h b).mpr (List.mem_cons_self ..)) (fun k => nomatch k)
  | a :: as, [], _, _, h => absurd ((h a).mp (List.mem_cons_self ..)) (fun k => nomatch k)
  | a :: as, b :: bs, ha, hb, h => by
    obtain ⟨a1, a2⟩ := List.pairwise_cons.mp ha
    obtain ⟨b1, b2⟩ := List.pairwise_cons.mp hb
    have irr : ∀ x, ¬ r x x := fun x k => as_ x x k k
    have e : a = b := by
      rcases List.mem_cons.mp ((h a).mp (List.mem_cons_self ..)) with e | g
      · exact e
      · rcases List.mem_cons.mp ((h b).mpr (List.mem_cons_self ..)) with e | g2
        · exact e.symm
        · exact absurd (a1 _ g2) (as_ _ _ (b1 _ g))
    subst e
    congr 1
    refine ord_ext as_ a2 b2 fun x => ⟨fun hx => ?_, fun hx => ?_⟩
    · exact (List.mem_cons.mp ((h x).mp (List.mem_cons_of_mem _ hx))).resolve_left fun e => irr x (by have := a1 x hx; rwa [← e] at this)
    · exact (List.mem_cons.mp ((h x).mpr (List.mem_cons_of_mem _ hx))).resolve_left fun e => irr x (by have := b1 x hx; rwa [← e] at this)
section
variable {T : Nat → Nat → Bool}
theorem kids_ne {P : List Nat} {Ls : List (List Nat)} (k : Kids T P Ls) {L : List Nat} (hL : L ∈ Ls) : L ≠ [] := fun e => by
  obtain ⟨x, _, hx⟩ := (k.str L hL).ne
  have hx : x ∈ L := hx
  rw [e] at hx
  cases hx
/-- no part is the whole -/
theorem kids_part {P : List Nat} {Ls : List (List Nat)} (nd : P.Nodup) (k : Kids T P Ls) (l2 : 2 ≤ Ls.length) {L : List Nat} (hL : L ∈ Ls) : ∃ x ∈ P, x ∉ L := by
  have ndF : Ls.flatten.Nodup := k.pm.nodup_iff.mpr nd
  obtain ⟨i, hi, ei⟩ := List.getElem_of_mem hL
  obtain ⟨j, hj, ne⟩ : ∃ j, j < Ls.length ∧ i ≠ j := by
    by_cases c : i = 0
    · exact ⟨1, by omega, by omega⟩
    · exact ⟨0, by omega, c⟩
  have hM : Ls[j] ∈ Ls := List.getElem_mem hj
  cases e : Ls[j] with
  | nil => exact absurd e (kids_ne k hM)
  | cons x r =>
    have hx : x ∈ Ls[j] := by rw [e]; exact List.mem_cons_self ..
    refine ⟨x, k.mem hM x hx, fun h => ?_⟩
    have h2 := (List.pairwise_flatten.mp ndF).2
    rcases Nat.lt_or_gt_of_ne ne with c | c
    · exact absurd rfl (List.pairwise_iff_getElem.mp h2 i j hi hj c x (by rw [ei]; exact h) x hx)
    · exact absurd rfl (List.pairwise_iff_getElem.mp h2 j i hj hi c x hx x (by rw [ei]; exact h))
theorem kids_sub {P : List Nat} {Ls Ls' : List (List Nat)} (nd : P.Nodup) (k : Kids T P Ls) (k' : Kids T P Ls') (l2 : 2 ≤ Ls.length) (l2' : 2 ≤ Ls'.length) (r : ∀ L ∈ Ls, L.Pairwise (· < ·)) (r' : ∀ L ∈ Ls', L.Pairwise (· < ·)) : ∀ L ∈ Ls, L ∈ Ls' := by
  intro L hL
  have ndF : Ls.flatten.Nodup := k.pm.nodup_iff.mpr nd
  obtain ⟨x, hx, nx⟩ := kids_part nd k l2 hL
  obtain ⟨L', hL', s1⟩ := k'.all (· ∈ L) (k.str L hL) ⟨x, hx, nx⟩
  obtain ⟨x', hx', nx'⟩ := kids_part nd k' l2' hL'
  obtain ⟨L'', hL'', s2⟩ := k.all (· ∈ L') (k'.str L' hL') ⟨x', hx', nx'⟩
  obtain ⟨y, hy, yL⟩ := (k.str L hL).ne
  have yL : y ∈ L := yL
  have e := part_same ndF hL hL'' yL (s2 y hy (s1 y hy yL))
  subst e
  have : L = L' := ord_ext (fun a b h g => by omega) (r L hL) (r' L' hL') fun z => ⟨fun h => s1 z (k.mem hL z h) h, fun h => s2 z (k'.mem hL' z h) h⟩
  rw [this]
  exact hL'
theorem kids_uniq {P : List Nat} {Ls Ls' : List (List Nat)} (nd : P.Nodup) (k : Kids T P Ls) (k' : Kids T P Ls') (l2 : 2 ≤ Ls.length) (l2' : 2 ≤ Ls'.length) (r : ∀ L ∈ Ls, L.Pairwise (· < ·)) (r' : ∀ L ∈ Ls', L.Pairwise (· < ·))
    (o : Ls.Pairwise fun A B => A.headD 0 < B.headD 0) (o' : Ls'.Pairwise fun A B => A.headD 0 < B.headD 0) : Ls = Ls' :=
  ord_ext (fun a b h g => by omega) o o' fun L => ⟨kids_sub nd k k' l2 l2' r r' L, kids_sub nd k' k l2' l2 r' r L⟩
theorem soK_uniq {s s' : Str} {Ls : List (List Nat)} (l2 : 2 ≤ Ls.length) (h : SoK T s Ls) (h' : SoK T s' Ls) : s = s' := by
  have no : ∀ {b c : Bool}, b ≠ c → (Ls.Pairwise fun A B => T (A.headD 0) (B.headD 0) = b) → (Ls.Pairwise fun A B => T (A.headD 0) (B.headD 0) = c) → False := fun {b c} ne p q => by
    have h1 := List.pairwise_iff_getElem.mp p 0 1 (by omega) (by omega) (by omega)
    have h2 := List.pairwise_iff_getElem.mp q 0 1 (by omega) (by omega) (by omega)
    exact ne (h1.symm.trans h2)
  rcases h with ⟨e, h⟩ | ⟨e, h⟩ | ⟨e, h1, h2⟩ <;> rcases h' with ⟨e', h'⟩ | ⟨e', h'⟩ | ⟨e', h1', h2'⟩
  · rw [e, e']
  · exact (no (by decide) h h').elim
  · exact absurd h h1'
  · exact (no (by decide) h h').elim
  · rw [e, e']
  · exact absurd h h2'
  · exact absurd h' h1
  · exact absurd h' h2
  · rw [e, e']
mutual
theorem MTr.uniq {ps : List Nat} {d : PyData} {Ss : List (List Nat)} : MTr T ps d Ss → ∀ {d' : PyData} {Ss' : List (List Nat)}, MTr T ps d' Ss' → d = d' ∧ Ss = Ss'
  | .leaf x, _, _, h => by
    generalize hp : [x] = ps at h
    cases h with
    | leaf y => rw [(List.cons.inj hp).1]; exact ⟨rfl, rfl⟩
    | node r k l2 so rs os ts =>
      have l1 := k.pm.length_eq
      rw [← hp, List.length_flatten] at l1
      have : ∀ Ms : List (List Nat), (∀ L ∈ Ms, L ≠ []) → Ms.length ≤ (Ms.map List.length).sum := by
        intro Ms
        induction Ms with
        | nil => exact fun _ => Nat.le_refl _
        | cons A r ih =>
          intro h
          have h1 := ih fun L hL => h L (List.mem_cons_of_mem _ hL)
          have h2 : 0 < A.length := List.length_pos_iff.mpr (h A (List.mem_cons_self ..))
          rw [List.length_cons, List.map_cons, List.sum_cons]
          omega
      have := this _ fun L hL => kids_ne k hL
      rw [List.length_singleton] at l1
      omega
  | .node r k l2 so rs os ts, _, _, h => by
    cases h with
    | leaf y =>
      have l1 := k.pm.length_eq
      rw [List.length_flatten] at l1
      have : ∀ Ms : List (List Nat), (∀ L ∈ Ms, L ≠ []) → Ms.length ≤ (Ms.map List.length).sum := by
        intro Ms
        induction Ms with
        | nil => exact fun _ => Nat.le_refl _
        | cons A r ih =>
          intro h
          have h1 := ih fun L hL => h L (List.mem_cons_of_mem _ hL)
          have h2 : 0 < A.length := List.length_pos_iff.mpr (h A (List.mem_cons_self ..))
          rw [List.length_cons, List.map_cons, List.sum_cons]
          omega
      have := this _ fun L hL => kids_ne k hL
      rw [List.length_singleton] at l1
      omega
    | node r' k' l2' so' rs' os' ts' =>
      have nd : ps.Nodup := r.imp fun h => by omega
      have e := kids_uniq nd k k' l2 l2' rs rs' os os'
      subst e
      have e2 := soK_uniq l2 so so'
      subst e2
      obtain ⟨e3, e4⟩ := MTrs.uniq ts ts'
      rw [e3, e4]
      exact ⟨rfl, rfl⟩
theorem MTrs.uniq {Ls : List (List Nat)} {ds : List PyData} {Ss : List (List (List Nat))} : MTrs T Ls ds Ss → ∀ {ds' : List PyData} {Ss' : List (List (List Nat))}, MTrs T Ls ds' Ss' → ds = ds' ∧ Ss = Ss'
  | .nil, _, _, h => by
    cases h
    exact ⟨rfl, rfl⟩
  | .cons a t, _, _, h => by
    cases h with
    | cons a' t' =>
      obtain ⟨e1, e2⟩ := MTr.uniq a a'
      obtain ⟨e3, e4⟩ := MTrs.uniq t t'
      rw [e1, e2, e3, e4]
      exact ⟨rfl, rfl⟩
end
end
end Ns

/-! Own layer, plain: the parts of a net made of nets are its greatest strong sets. -/
namespace Ns
open PySem PySem.Spec PyProof.Rows L2
/-- numbers of which no proper sort of more than one is alike -/
def PrimeN (R : Nat → Nat → Bool) (k : Nat) : Prop := ∀ I : Nat → Prop, Md R (List.range k) I → ∀ i j, i < k → j < k → i ≠ j → I i → I j → ∀ m, m < k → I m
section
variable {T : Tm} {ps : List Nat} {Ls : List (List Nat)} {R : Nat → Nat → Bool} (X : Parted T ps Ls R)
include X
theorem Parted.lt {i : Nat} {L : List Nat} (h : Ls[i]? = some L) : i < Ls.length := (List.getElem?_eq_some_iff.mp h).1
theorem Parted.pick (i : Nat) (h : i < Ls.length) : ∃ (L : List Nat) (x : Nat), Ls[i]? = some L ∧ x ∈ L := by
  have e : Ls[i]? = some Ls[i] := List.getElem?_eq_getElem h
  obtain ⟨x, hx⟩ := List.exists_mem_of_ne_nil _ (X.ne _ (List.getElem_mem h))
  exact ⟨_, x, e, hx⟩
/-- a part is alike -/
theorem Parted.md {i : Nat} {L : List Nat} (hL : Ls[i]? = some L) : Md T ps (· ∈ L) := by
  intro z hz nz a ha b hb ua ub
  obtain ⟨j, M, hM, zM⟩ := X.at_ hz
  have ne : j ≠ i := fun e => by
    subst e
    rw [hL] at hM
    cases hM
    exact nz zM
  rw [X.st hM hL ne z zM a ua, X.st hM hL ne z zM b ub]
/-- what meets two parts of a prime one is the whole -/
theorem Parted.prime (pr : PrimeN R Ls.length) (k3 : 3 ≤ Ls.length) {M : Nat → Prop} (hM : Md T ps M) {i j : Nat} {A B : List Nat} (hA : Ls[i]? = some A) (hB : Ls[j]? = some B) (ne : i ≠ j) {x y : Nat} (hx : x ∈ A) (xM : M x) (hy : y ∈ B) (yM : M y) : ∀ z ∈ ps, M z := by
  have meet : ∀ m, m < Ls.length → ∃ (C : List Nat) (u : Nat), Ls[m]? = some C ∧ u ∈ C ∧ M u := by
    refine pr (fun m => ∃ (C : List Nat) (u : Nat), Ls[m]? = some C ∧ u ∈ C ∧ M u) (fun m hm nm a ha b hb ua ub => ?_) i j (X.lt hA) (X.lt hB) ne ⟨A, x, hA, hx, xM⟩ ⟨B, y, hB, hy, yM⟩
    obtain ⟨C, u, hC, huC⟩ := X.pick m (List.mem_range.mp hm)
    obtain ⟨Ca, va, hCa, va1, va2⟩ := ua
    obtain ⟨Cb, vb, hCb, vb1, vb2⟩ := ub
    have nu : ¬ M u := fun h => nm ⟨C, u, hC, huC, h⟩
    have na : m ≠ a := fun e => by subst e; exact nm ⟨Ca, va, hCa, va1, va2⟩
    have nb : m ≠ b := fun e => by subst e; exact nm ⟨Cb, vb, hCb, vb1, vb2⟩
    have := hM u (X.in_ hC huC) nu va (X.in_ hCa va1) vb (X.in_ hCb vb1) va2 vb2
    rwa [X.st hC hCa na u huC va va1, X.st hC hCb nb u huC vb vb1] at this
  intro z hz
  apply Classical.byContradiction
  intro nz
  obtain ⟨m, C, hC, zC⟩ := X.at_ hz
  -- all numbers but m are alike
  have h3 : ∃ a b, a < Ls.length ∧ b < Ls.length ∧ a ≠ b ∧ a ≠ m ∧ b ≠ m := by
    by_cases c0 : m = 0
    · exact ⟨1, 2, by omega, by omega, by omega, by omega, by omega⟩
    · by_cases c1 : m = 1
      · exact ⟨0, 2, by omega, by omega, by omega, by omega, by omega⟩
      · exact ⟨0, 1, by omega, by omega, by omega, by omega, by omega⟩
  obtain ⟨a, b, ha, hb, hab, am, bm⟩ := h3
  have := pr (fun u => u ≠ m) (fun v hv nv u hu u' hu' cu cu' => ?_) a b ha hb hab am bm m (X.lt hC)
  · exact this rfl
  · have ev : v = m := Classical.byContradiction fun h => nv h
    subst ev
    obtain ⟨C1, w1, h1, h2, h3⟩ := meet u (List.mem_range.mp hu)
    obtain ⟨C2, w2, g1, g2, g3⟩ := meet u' (List.mem_range.mp hu')
    have := hM z hz nz w1 (X.in_ h1 h2) w2 (X.in_ g1 g2) h3 g3
    rwa [X.st hC h1 (Ne.symm cu) z zC w1 h2, X.st hC g1 (Ne.symm cu') z zC w2 g2] at this
theorem Parted.kids_prime (pr : PrimeN R Ls.length) (k3 : 3 ≤ Ls.length) : Kids T ps Ls := by
  refine ⟨X.pm.symm, fun L hL => ?_, fun S hS hp => ?_⟩
  · obtain ⟨i, hi⟩ := List.getElem?_of_mem hL
    refine ⟨X.md hi, ?_, fun M hM l => ?_⟩
    · obtain ⟨x, hx⟩ := List.exists_mem_of_ne_nil _ (X.ne _ hL)
      exact ⟨x, X.in_ hi hx, hx⟩
    · obtain ⟨⟨x, hx, xL, xM⟩, ⟨y, hy, yL, yM⟩, z, hz, zM, zL⟩ := l
      obtain ⟨j, B, hB, zB⟩ := X.at_ hz
      have ne : i ≠ j := fun e => by
        subst e
        rw [hi] at hB
        cases hB
        exact zL zB
      exact yM (X.prime pr k3 hM hi hB ne xL xM zB zM y hy)
  · obtain ⟨x, hx, xS⟩ := hS.ne
    obtain ⟨i, A, hA, xA⟩ := X.at_ hx
    refine ⟨A, List.mem_of_getElem? hA, fun y hy yS => ?_⟩
    apply Classical.byContradiction
    intro nA
    obtain ⟨j, B, hB, yB⟩ := X.at_ hy
    have ne : i ≠ j := fun e => by
      subst e
      rw [hA] at hB
      cases hB
      exact nA yB
    obtain ⟨z, hz, zS⟩ := hp
    exact zS (X.prime pr k3 hS.md hA hB ne xA xS yB yS z hz)
end
/-- points that fall into no two sorts with b between all of one and all of the other -/
def Tight (T : Tm) (b : Bool) (L : List Nat) : Prop := ∀ A : Nat → Prop, (∃ x ∈ L, A x) → (∃ y ∈ L, ¬ A y) → ∃ x ∈ L, ∃ y ∈ L, A x ∧ ¬ A y ∧ T x y ≠ b
theorem tight_one (T : Tm) (b : Bool) (x : Nat) : Tight T b [x] := fun A ⟨u, hu, h1⟩ ⟨v, hv, h2⟩ => by
  rw [List.mem_singleton.mp hu] at h1
  rw [List.mem_singleton.mp hv] at h2
  exact absurd h1 h2
section
variable {T : Tm} {ps : List Nat} {Ls : List (List Nat)} {b : Bool} (S : SyT T) (X : Parted T ps Ls fun _ _ => b)
include S X
theorem Parted.kids_all (k2 : 2 ≤ Ls.length) (tt : ∀ L ∈ Ls, Tight T b L) : Kids T ps Ls := by
  refine ⟨X.pm.symm, fun L hL => ?_, fun S' hS hp => ?_⟩
  · obtain ⟨i, hi⟩ := List.getElem?_of_mem hL
    refine ⟨X.md hi, ?_, fun M hM l => ?_⟩
    · obtain ⟨x, hx⟩ := List.exists_mem_of_ne_nil _ (X.ne _ hL)
      exact ⟨x, X.in_ hi hx, hx⟩
    · obtain ⟨⟨x, hx, xL, xM⟩, ⟨y, hy, yL, yM⟩, z, hz, zM, zL⟩ := l
      obtain ⟨j, B, hB, zB⟩ := X.at_ hz
      have ne : i ≠ j := fun e => by
        subst e
        rw [hi] at hB
        cases hB
        exact zL zB
      obtain ⟨u, hu, v, hv, uM, vM, h⟩ := tt L hL M ⟨x, xL, xM⟩ ⟨y, yL, yM⟩
      have h1 := hM v (X.in_ hi hv) vM u (X.in_ hi hu) z hz uM zM
      rw [X.st hi hB ne v hv z zB] at h1
      rw [S.sy] at h
      exact h h1
  · obtain ⟨x, hx, xS⟩ := hS.ne
    obtain ⟨i, A, hA, xA⟩ := X.at_ hx
    refine ⟨A, List.mem_of_getElem? hA, fun y hy yS => ?_⟩
    apply Classical.byContradiction
    intro nA
    obtain ⟨j, B, hB, yB⟩ := X.at_ hy
    have ne : i ≠ j := fun e => by
      subst e
      rw [hA] at hB
      cases hB
      exact nA yB
    obtain ⟨z, hz, zS⟩ := hp
    obtain ⟨m, C, hC, zC⟩ := X.at_ hz
    -- a part, or two, that meet S and hold z
    have two : ∀ {i j : Nat} {A B : List Nat} {x y : Nat}, Ls[i]? = some A → Ls[j]? = some B → i ≠ j → x ∈ A → S' x → y ∈ B → S' y → i ≠ m → False := fun {i j A B x y} hA hB ne xA xS yB yS im => by
      have hx := X.in_ hA xA
      have hy := X.in_ hB yB
      by_cases jm : j = m
      · subst jm
        rw [hC] at hB
        cases hB
        refine hS.no (· ∈ C) (X.md hC) ⟨⟨y, hy, yS, yB⟩, ⟨x, hx, xS, fun h => im (X.one hA hC xA h)⟩, z, hz, zC, zS⟩
      · refine hS.no (fun u => u ∈ C ∨ u ∈ A) (fun v hv nv u hu u' hu' cu cu' => ?_) ⟨⟨x, hx, xS, .inr xA⟩, ⟨y, hy, yS, fun h => h.elim (fun h => jm (X.one hB hC yB h)) fun h => ne (X.one hA hB h yB)⟩, z, hz, .inl zC, zS⟩
        obtain ⟨q, D, hD, vD⟩ := X.at_ hv
        have qC : q ≠ m := fun e => by subst e; rw [hC] at hD; cases hD; exact nv (.inl vD)
        have qA : q ≠ i := fun e => by subst e; rw [hA] at hD; cases hD; exact nv (.inr vD)
        have to : ∀ w, w ∈ C ∨ w ∈ A → T v w = b := fun w hw => hw.elim (fun h => X.st hD hC qC v vD w h) fun h => X.st hD hA qA v vD w h
        rw [to u cu, to u' cu']
    by_cases im : i = m
    · subst im
      exact two hB hA (Ne.symm ne) yB yS xA xS (Ne.symm ne)
    · exact two hA hB ne xA xS yB yS im
/-- such a net is tight for the other sort -/
theorem Parted.tight_all (k2 : 2 ≤ Ls.length) : Tight T (!b) ps := by
  intro A ⟨x, hx, xA⟩ ⟨y, hy, yA⟩
  obtain ⟨i, C, hC, xC⟩ := X.at_ hx
  obtain ⟨j, D, hD, yD⟩ := X.at_ hy
  have nb : b ≠ !b := by cases b <;> decide
  by_cases ne : i = j
  · subst ne
    obtain ⟨m, hm, nm⟩ : ∃ m, m < Ls.length ∧ m ≠ i := by
      by_cases c : i = 0
      · exact ⟨1, by omega, by omega⟩
      · exact ⟨0, by omega, by omega⟩
    obtain ⟨F, w, hF, wF⟩ := X.pick m hm
    have hw := X.in_ hF wF
    by_cases c : A w
    · exact ⟨w, hw, y, hy, c, yA, by rw [X.st hF hD nm w wF y yD]; exact nb⟩
    · exact ⟨x, hx, w, hw, xA, c, by rw [X.st hC hF (Ne.symm nm) x xC w wF]; exact nb⟩
  · exact ⟨x, hx, y, hy, xA, yA, by rw [X.st hC hD ne x xC y yD]; exact nb⟩
end
section
variable {T : Tm} {ps : List Nat} {Ls : List (List Nat)} {R : Nat → Nat → Bool} (S : SyT T) (X : Parted T ps Ls R)
include S X
theorem Parted.tight_prime (pr : PrimeN R Ls.length) (k3 : 3 ≤ Ls.length) (b : Bool) : Tight T b ps := by
  intro A hx hy
  apply Classical.byContradiction
  intro h
  have al : ∀ u ∈ ps, ∀ v ∈ ps, A u → ¬ A v → T u v = b := fun u hu v hv a1 a2 => Classical.byContradiction fun k => h ⟨u, hu, v, hv, a1, a2, k⟩
  have m1 : Md T ps A := fun z hz nz a ha c hc ua uc => by rw [S.sy z a, S.sy z c, al a ha z hz ua nz, al c hc z hz uc nz]
  have m2 : Md T ps (fun x => ¬ A x) := fun z hz nz a ha c hc ua uc => by
    have nz : A z := Classical.byContradiction nz
    rw [al z hz a ha nz ua, al z hz c hc nz uc]
  obtain ⟨x, hxp, xA⟩ := hx
  obtain ⟨y, hyp, yA⟩ := hy
  obtain ⟨i, C, hC, xC⟩ := X.at_ hxp
  obtain ⟨j, D, hD, yD⟩ := X.at_ hyp
  -- each part with a point of A that is not x's is the whole's
  obtain ⟨m, hm, mi, mj⟩ : ∃ m, m < Ls.length ∧ m ≠ i ∧ m ≠ j := by
    have : ∃ m, m < 3 ∧ m ≠ i ∧ m ≠ j := by
      by_cases c0 : 0 ≠ i ∧ 0 ≠ j
      · exact ⟨0, by omega, c0⟩
      · by_cases c1 : 1 ≠ i ∧ 1 ≠ j
        · exact ⟨1, by omega, c1⟩
        · exact ⟨2, by omega, by omega, by omega⟩
    obtain ⟨m, h1, h2⟩ := this
    exact ⟨m, by omega, h2⟩
  obtain ⟨F, w, hF, wF⟩ := X.pick m hm
  by_cases c : A w
  · exact yA (X.prime pr k3 m1 hF hC mi wF c xC xA y hyp)
  · exact X.prime pr k3 m2 hF hD mj wF c yD yA x hxp xA
end
end Ns

/-! Own layer, plain: ways and rings are prime. -/
namespace Ns
open PySem PySem.Spec PyProof.Rows L2
theorem up_all {k : Nat} {I : Nat → Prop} (st : ∀ a, a + 2 < k → I a → I (a + 1) → I (a + 2)) {a : Nat} (h1 : I a) (h2 : I (a + 1)) : ∀ t, a + t + 1 < k → I (a + t) ∧ I (a + t + 1)
  | 0, _ => ⟨h1, h2⟩
  | t + 1, h => by
    obtain ⟨p, q⟩ := up_all st h1 h2 t (by omega)
    exact ⟨q, st (a + t) (by omega) p q⟩
theorem down_all {I : Nat → Prop} (st : ∀ a, I (a + 1) → I (a + 2) → I a) : ∀ a, I a → I (a + 1) → ∀ m, m ≤ a → I m
  | 0, h1, _, m, hm => by rw [show m = 0 by omega]; exact h1
  | a + 1, h1, h2, m, hm => by
    by_cases e : m = a + 1
    · rw [e]; exact h1
    · exact down_all st a (st a h1 h2) h1 m (by omega)
/-- the next one of some above another -/
theorem next_in {I : Nat → Prop} : ∀ (n i j : Nat), j - i ≤ n → i < j → I j → ∃ m, i < m ∧ m ≤ j ∧ I m ∧ ∀ u, i < u → u < m → ¬ I u
  | 0, i, j, h, lt, _ => by omega
  | n + 1, i, j, h, lt, hj => by
    by_cases e : ∃ u, i < u ∧ u < j ∧ I u
    · obtain ⟨u, u1, u2, u3⟩ := e
      obtain ⟨m, m1, m2, m3, m4⟩ := next_in n i u (by omega) u1 u3
      exact ⟨m, m1, by omega, m3, m4⟩
    · exact ⟨j, lt, Nat.le_refl _, hj, fun u h1 h2 h3 => e ⟨u, h1, h2, h3⟩⟩
theorem way_prime {k : Nat} (h4 : 4 ≤ k) {I : Nat → Prop} (md : ∀ z, z < k → ¬ I z → ∀ a b, a < k → b < k → I a → I b → ((z + 1 = a ∨ a + 1 = z) ↔ (z + 1 = b ∨ b + 1 = z))) {i j : Nat} (hi : i < k) (hj : j < k) (ne : i ≠ j) (Ii : I i) (Ij : I j) : ∀ m, m < k → I m := by
  have up : ∀ a, a + 2 < k → I a → I (a + 1) → I (a + 2) := fun a ha h1 h2 => Classical.byContradiction fun n => by
    have := md (a + 2) ha n a (a + 1) (by omega) (by omega) h1 h2
    omega
  have dn : ∀ a, a + 2 < k → I (a + 1) → I (a + 2) → I a := fun a ha h1 h2 => Classical.byContradiction fun n => by
    have := md a (by omega) n (a + 1) (a + 2) (by omega) (by omega) h1 h2
    omega
  have pair : ∃ a, a + 1 < k ∧ I a ∧ I (a + 1) := by
    obtain ⟨i, j, lt, hj, Ii, Ij⟩ : ∃ i j, i < j ∧ j < k ∧ I i ∧ I j := by
      rcases Nat.lt_or_gt_of_ne ne with c | c
      · exact ⟨i, j, c, hj, Ii, Ij⟩
      · exact ⟨j, i, c, hi, Ij, Ii⟩
    obtain ⟨m, m1, m2, m3, m4⟩ := next_in _ i j (Nat.le_refl _) lt Ij
    by_cases e : m = i + 1
    · exact ⟨i, by omega, Ii, by rw [← e]; exact m3⟩
    · have h1 := md (i + 1) (by omega) (m4 _ (by omega) (by omega)) i m (by omega) (by omega) Ii m3
      have em : m = i + 2 := by omega
      subst em
      by_cases i0 : i = 0
      · subst i0
        by_cases I3 : I 3
        · exact ⟨2, by omega, m3, I3⟩
        · have := md 3 (by omega) I3 0 (0 + 2) (by omega) (by omega) Ii m3
          omega
      · by_cases Ip : I (i - 1)
        · exact ⟨i - 1, by omega, Ip, by rw [show i - 1 + 1 = i by omega]; exact Ii⟩
        · have := md (i - 1) (by omega) Ip i (i + 2) (by omega) (by omega) Ii m3
          omega
  obtain ⟨a, ha, h1, h2⟩ := pair
  intro m hm
  by_cases c : m ≤ a
  · have dn2 : ∀ c, c ≤ a → I (c + 1) → I (c + 2) → I c := fun c hc g1 g2 => by
      by_cases k2 : c + 2 < k
      · exact dn c k2 g1 g2
      · rw [show c = a by omega]; exact h1
    -- down from a
    have go : ∀ t, t ≤ a → I (a - t) ∧ I (a - t + 1) := by
      intro t
      induction t with
      | zero => exact fun _ => ⟨h1, h2⟩
      | succ t ih =>
        intro ht
        obtain ⟨p, q⟩ := ih (by omega)
        have e1 : a - t = a - (t + 1) + 1 := by omega
        rw [e1] at p q
        exact ⟨dn2 _ (by omega) p q, p⟩
    have := (go (a - m) (by omega)).1
    rwa [show a - (a - m) = m by omega] at this
  · have := (up_all (k := k) up h1 h2 (m - a - 1) (by omega)).2
    rwa [show a + (m - a - 1) + 1 = m by omega] at this
theorem ring_prime {k : Nat} (h5 : 5 ≤ k) {I : Nat → Prop} (md : ∀ z, z < k → ¬ I z → ∀ a b, a < k → b < k → I a → I b → ((z + 1 = a ∨ a + 1 = z ∨ (z = 0 ∧ a + 1 = k ∨ a = 0 ∧ z + 1 = k)) ↔ (z + 1 = b ∨ b + 1 = z ∨ (z = 0 ∧ b + 1 = k ∨ b = 0 ∧ z + 1 = k)))) {i j : Nat} (hi : i < k) (hj : j < k) (ne : i ≠ j) (Ii : I i) (Ij : I j) : ∀ m, m < k → I m := by
  have up : ∀ a, a + 2 < k → I a → I (a + 1) → I (a + 2) := fun a ha h1 h2 => Classical.byContradiction fun n => by
    have := md (a + 2) ha n a (a + 1) (by omega) (by omega) h1 h2
    omega
  have round1 : I (k - 2) → I (k - 1) → I 0 := fun h1 h2 => Classical.byContradiction fun n => by
    have := md 0 (by omega) n (k - 2) (k - 1) (by omega) (by omega) h1 h2
    omega
  have round2 : I (k - 1) → I 0 → I 1 := fun h1 h2 => Classical.byContradiction fun n => by
    have := md 1 (by omega) n (k - 1) 0 (by omega) (by omega) h1 h2
    omega
  have from0 : I 0 → I 1 → ∀ m, m < k → I m := fun h0 h1 m hm => by
    cases m with
    | zero => exact h0
    | succ t =>
      have := (up_all (k := k) up h0 h1 t (by omega)).2
      rwa [show 0 + t + 1 = t + 1 by omega] at this
  have fromA : ∀ a, a + 1 < k → I a → I (a + 1) → ∀ m, m < k → I m := fun a ha h1 h2 => by
    have hk : I (k - 2) ∧ I (k - 1) := by
      have := up_all (k := k) up h1 h2 (k - 2 - a) (by omega)
      rwa [show a + (k - 2 - a) = k - 2 by omega, show k - 2 + 1 = k - 1 by omega] at this
    have h0 := round1 hk.1 hk.2
    exact from0 h0 (round2 hk.2 h0)
  have fromK : I (k - 1) → I 0 → ∀ m, m < k → I m := fun h1 h0 => from0 h0 (round2 h1 h0)
  obtain ⟨nx, hnx⟩ : ∃ nx, (i + 1 = k ∧ nx = 0) ∨ (i + 1 < k ∧ nx = i + 1) := by
    by_cases c : i + 1 = k
    · exact ⟨0, .inl ⟨c, rfl⟩⟩
    · exact ⟨i + 1, .inr ⟨by omega, rfl⟩⟩
  obtain ⟨pv, hpv⟩ : ∃ pv, (i = 0 ∧ pv = k - 1) ∨ (0 < i ∧ pv = i - 1) := by
    by_cases c : i = 0
    · exact ⟨k - 1, .inl ⟨c, rfl⟩⟩
    · exact ⟨i - 1, .inr ⟨by omega, rfl⟩⟩
  by_cases In : I nx
  · rcases hnx with ⟨c, e⟩ | ⟨c, e⟩
    · rw [e] at In
      rw [show i = k - 1 by omega] at Ii
      exact fromK Ii In
    · rw [e] at In
      exact fromA i c Ii In
  by_cases Ip : I pv
  · rcases hpv with ⟨c, e⟩ | ⟨c, e⟩
    · rw [e] at Ip
      rw [c] at Ii
      exact fromK Ip Ii
    · rw [e] at Ip
      exact fromA (i - 1) (by omega) Ip (by rw [show i - 1 + 1 = i by omega]; exact Ii)
  have h1 := md nx (by omega) In i j hi hj Ii Ij
  have h2 := md pv (by omega) Ip i j hi hj Ii Ij
  exfalso
  rcases hnx with ⟨c, e⟩ | ⟨c, e⟩ <;> rcases hpv with ⟨c', e'⟩ | ⟨c', e'⟩ <;> subst e <;> subst e' <;> omega
theorem primeN_of {k : Nat} (h4 : 4 ≤ k) {ring turned : Bool} (h5 : ring = true → 5 ≤ k) : PrimeN (primeR ring turned k) k := by
  intro I md i j hi hj ne Ii Ij
  have md2 : ∀ z, z < k → ¬ I z → ∀ a b, a < k → b < k → I a → I b → (nearW ring k z a = true ↔ nearW ring k z b = true) := fun z hz nz a b ha hb ua ub => by
    have h := md z (List.mem_range.mpr hz) nz a (List.mem_range.mpr ha) b (List.mem_range.mpr hb) ua ub
    unfold primeR at h
    have : nearW ring k z a = nearW ring k z b := by
      revert h
      cases nearW ring k z a <;> cases nearW ring k z b <;> cases turned <;> decide
    rw [this]
  cases ring with
  | false =>
    refine way_prime h4 (fun z hz nz a b ha hb ua ub => ?_) hi hj ne Ii Ij
    have := md2 z hz nz a b ha hb ua ub
    rw [nearW_iff, nearW_iff] at this
    simpa using this
  | true =>
    refine ring_prime (h5 rfl) (fun z hz nz a b ha hb ua ub => ?_) hi hj ne Ii Ij
    have := md2 z hz nz a b ha hb ua ub
    rw [nearW_iff, nearW_iff] at this
    simpa using this
end Ns

/-! Own layer, plain: drawn trees: whether arrows go through, whether four stand in a row. -/
namespace Ns
open PySem PySem.Spec PyProof.Rows L2
inductive DSort | ap | tg | pr (ring turned : Bool)
inductive Dr | leaf (x : Nat) | node (s : DSort) (ks : List Dr)
mutual
def Dr.pts : Dr → List Nat
  | .leaf x => [x]
  | .node _ ks => ptsDr ks
def ptsDr : List Dr → List Nat
  | [] => []
  | k :: r => k.pts ++ ptsDr r
end
theorem ptsDr_eq : ∀ ks : List Dr, ptsDr ks = (ks.map Dr.pts).flatten
  | [] => by simp [ptsDr]
  | k :: r => by rw [ptsDr, ptsDr_eq r, List.map_cons, List.flatten_cons]
/-- how two trees stand, told of their numbers -/
def DSort.R : DSort → Nat → Nat → Nat → Bool
  | .ap, _ => fun _ _ => false
  | .tg, _ => fun _ _ => true
  | .pr ring turned, k => primeR ring turned k
theorem DSort.sy (s : DSort) (k : Nat) : ∀ i j, s.R k i j = s.R k j i := by
  cases s with
  | ap => exact fun _ _ => rfl
  | tg => exact fun _ _ => rfl
  | pr r t => exact primeR_sy r t k
def DSort.goes (arrows : Bool) (k : Nat) : DSort → Bool
  | .pr ring turned => arrows && !(ring && (turned || k % 2 == 1))
  | _ => true
mutual
def Dr.goes (arrows : Bool) : Dr → Bool
  | .leaf _ => true
  | .node s ks => s.goes arrows ks.length && goesDr arrows ks
def goesDr (arrows : Bool) : List Dr → Bool
  | [] => true
  | k :: r => k.goes arrows && goesDr arrows r
end
theorem goesDr_iff (a : Bool) : ∀ ks : List Dr, goesDr a ks = true ↔ ∀ k ∈ ks, k.goes a = true
  | [] => by simp [goesDr]
  | k :: r => by rw [goesDr, Bool.and_eq_true, goesDr_iff a r, List.forall_mem_cons]
/-- as many trees as the sort wants, and no sort right below itself -/
def DSort.fit : DSort → List Dr → Prop
  | .ap, ks => 2 ≤ ks.length ∧ ∀ k ∈ ks, ∀ l, k ≠ .node .ap l
  | .tg, ks => 2 ≤ ks.length ∧ ∀ k ∈ ks, ∀ l, k ≠ .node .tg l
  | .pr ring _, ks => 4 ≤ ks.length ∧ (ring = true → 5 ≤ ks.length)
theorem DSort.two {s : DSort} {ks : List Dr} (h : s.fit ks) : 2 ≤ ks.length := by
  cases s with
  | ap => exact h.1
  | tg => exact h.1
  | pr r t => exact Nat.le_trans (by decide) h.1
/-- a tree whose points stand as it tells -/
inductive DOk (T : Tm) : Dr → Prop
  | leaf (x : Nat) : DOk T (.leaf x)
  | node {s : DSort} {ks : List Dr} : Parted T (ptsDr ks) (ks.map Dr.pts) (s.R ks.length) → s.fit ks → (∀ k, k ∈ ks → DOk T k) → DOk T (.node s ks)
section
variable {T : Tm} (S : SyT T)
include S
theorem DSort.arrows {s : DSort} {ks : List Dr} (f : s.fit ks) : NoTurn (arI (s.R ks.length) ks.length) ↔ s.goes true ks.length = true := by
  cases s with
  | ap => exact iff_of_true (all_noturn _ _) rfl
  | tg => exact iff_of_true (all_noturn _ _) rfl
  | pr ring turned =>
    refine (prime_arrows f.1 f.2).trans ?_
    unfold DSort.goes
    cases ring <;> cases turned <;> simp
theorem DOk.arrows {d : Dr} (h : DOk T d) : NoTurn (arT T d.pts) ↔ d.goes true = true := by
  induction h with
  | leaf x =>
    refine iff_of_true (fun a b e => ?_) (by rw [Dr.goes])
    have e1 := List.mem_singleton.mp (show a ∈ [x] by simpa [Dr.pts] using e.1)
    have e2 := List.mem_singleton.mp (show b ∈ [x] by simpa [Dr.pts] using e.2.1)
    have := e.2.2
    rw [e1, e2, S.ir] at this
    cases this
  | node X f _ ih =>
    rename_i s ks
    rw [Dr.goes, Bool.and_eq_true, goesDr_iff, ← DSort.arrows S f, Dr.pts, X.arrows S, List.length_map]
    refine and_congr_right fun _ => ⟨fun g k hk => (ih k hk).mp (g _ (List.mem_map.mpr ⟨k, hk, rfl⟩)), fun g L hL => ?_⟩
    obtain ⟨k, hk, rfl⟩ := List.mem_map.mp hL
    exact (ih k hk).mpr (g k hk)
/-! four in a row -/
theorem Parted.row_all {ps : List Nat} {Ls : List (List Nat)} {b : Bool} (X : Parted T ps Ls fun _ _ => b) : P4 T ps ↔ ∃ L ∈ Ls, P4 T L := by
  constructor
  · rintro ⟨u, v, w, z, hu, hv, hw, hz, h1, h2, h3, h4, h5, h6⟩
    obtain ⟨i, A, hA, uA⟩ := X.at_ hu
    have same : ∀ {x y : Nat}, x ∈ A → y ∈ ps → T x y ≠ b → y ∈ A := fun {x y} hx hy ne => by
      obtain ⟨j, B, hB, yB⟩ := X.at_ hy
      by_cases e : i = j
      · subst e
        rw [hA] at hB
        cases hB
        exact yB
      · exact absurd (X.st hA hB e x hx y yB) ne
    refine ⟨A, List.mem_of_getElem? hA, ?_⟩
    cases b with
    | false =>
      have vA := same uA hv (by rw [h1]; decide)
      have wA := same vA hw (by rw [h2]; decide)
      have zA := same wA hz (by rw [h3]; decide)
      exact ⟨u, v, w, z, uA, vA, wA, zA, h1, h2, h3, h4, h5, h6⟩
    | true =>
      have wA := same uA hw (by rw [h4]; decide)
      have zA := same uA hz (by rw [h6]; decide)
      have vA := same zA hv (by rw [S.sy, h5]; decide)
      exact ⟨u, v, w, z, uA, vA, wA, zA, h1, h2, h3, h4, h5, h6⟩
  · rintro ⟨L, hL, u, v, w, z, hu, hv, hw, hz, h⟩
    obtain ⟨i, hi⟩ := List.getElem?_of_mem hL
    exact ⟨u, v, w, z, X.in_ hi hu, X.in_ hi hv, X.in_ hi hw, X.in_ hi hz, h⟩
omit S in
theorem Parted.row_prime {ps : List Nat} {Ls : List (List Nat)} {ring turned : Bool} (X : Parted T ps Ls (primeR ring turned Ls.length)) (h4 : 4 ≤ Ls.length) (h5 : ring = true → 5 ≤ Ls.length) : P4 T ps := by
  obtain ⟨A0, x0, a0, m0⟩ := X.pick 0 (by omega)
  obtain ⟨A1, x1, a1, m1⟩ := X.pick 1 (by omega)
  obtain ⟨A2, x2, a2, m2⟩ := X.pick 2 (by omega)
  obtain ⟨A3, x3, a3, m3⟩ := X.pick 3 (by omega)
  have nr : ∀ i j, i < 4 → j < 4 → (nearW ring Ls.length i j = true ↔ (i + 1 = j ∨ j + 1 = i)) := fun i j hi hj => by
    rw [nearW_iff]
    constructor
    · rintro (h | h | ⟨r, h⟩)
      · exact .inl h
      · exact .inr h
      · have := h5 r
        omega
    · rintro (h | h)
      · exact .inl h
      · exact .inr (.inl h)
  have N : ∀ i j, i < 4 → j < 4 → nearW ring Ls.length i j = decide (i + 1 = j ∨ j + 1 = i) := fun i j hi hj => by
    rw [Bool.eq_iff_iff, nr i j hi hj, decide_eq_true_eq]
  have V : ∀ {i j : Nat} {A B : List Nat} {x y : Nat}, i < 4 → j < 4 → i ≠ j → Ls[i]? = some A → Ls[j]? = some B → x ∈ A → y ∈ B → T x y = (decide (i + 1 = j ∨ j + 1 = i) != turned) := fun {i j A B x y} hi hj ne hA hB hx hy => by
    rw [X.st hA hB ne x hx y hy, primeR, N i j hi hj]
  cases turned with
  | false =>
    exact ⟨x0, x1, x2, x3, X.in_ a0 m0, X.in_ a1 m1, X.in_ a2 m2, X.in_ a3 m3, (V (by decide) (by decide) (by decide) a0 a1 m0 m1).trans (by decide), (V (by decide) (by decide) (by decide) a1 a2 m1 m2).trans (by decide), (V (by decide) (by decide) (by decide) a2 a3 m2 m3).trans (by decide),
      (V (by decide) (by decide) (by decide) a0 a2 m0 m2).trans (by decide), (V (by decide) (by decide) (by decide) a1 a3 m1 m3).trans (by decide), (V (by decide) (by decide) (by decide) a0 a3 m0 m3).trans (by decide)⟩
  | true =>
    exact ⟨x1, x3, x0, x2, X.in_ a1 m1, X.in_ a3 m3, X.in_ a0 m0, X.in_ a2 m2, (V (by decide) (by decide) (by decide) a1 a3 m1 m3).trans (by decide), (V (by decide) (by decide) (by decide) a3 a0 m3 m0).trans (by decide), (V (by decide) (by decide) (by decide) a0 a2 m0 m2).trans (by decide),
      (V (by decide) (by decide) (by decide) a1 a0 m1 m0).trans (by decide), (V (by decide) (by decide) (by decide) a3 a2 m3 m2).trans (by decide), (V (by decide) (by decide) (by decide) a1 a2 m1 m2).trans (by decide)⟩
theorem DOk.row {d : Dr} (h : DOk T d) : ¬ P4 T d.pts ↔ d.goes false = true := by
  induction h with
  | leaf x =>
    refine iff_of_true (fun ⟨u, v, w, z, hu, hv, hw, hz, h1, _⟩ => ?_) (by rw [Dr.goes])
    have e1 := List.mem_singleton.mp (show u ∈ [x] by simpa [Dr.pts] using hu)
    have e2 := List.mem_singleton.mp (show v ∈ [x] by simpa [Dr.pts] using hv)
    rw [e1, e2, S.ir] at h1
    cases h1
  | node X f _ ih =>
    rename_i s ks _
    rw [Dr.goes, Bool.and_eq_true, goesDr_iff, Dr.pts]
    have ap : ∀ b : Bool, (X : Parted T (ptsDr ks) (ks.map Dr.pts) fun _ _ => b) → (¬ P4 T (ptsDr ks) ↔ ∀ k ∈ ks, k.goes false = true) := fun b X => by
      rw [X.row_all S]
      constructor
      · intro g k hk
        exact (ih k hk).mp fun r => g ⟨_, List.mem_map.mpr ⟨k, hk, rfl⟩, r⟩
      · rintro g ⟨L, hL, r⟩
        obtain ⟨k, hk, rfl⟩ := List.mem_map.mp hL
        exact (ih k hk).mpr (g k hk) r
    cases s with
    | ap => exact (ap false X).trans ⟨fun h => ⟨rfl, h⟩, fun h => h.2⟩
    | tg => exact (ap true X).trans ⟨fun h => ⟨rfl, h⟩, fun h => h.2⟩
    | pr ring turned =>
      have X2 : Parted T (ptsDr ks) (ks.map Dr.pts) (primeR ring turned (ks.map Dr.pts).length) := by rw [List.length_map]; exact X
      have l : (ks.map Dr.pts).length = ks.length := List.length_map _
      refine iff_of_false (fun g => g (X2.row_prime (by rw [l]; exact f.1) (by rw [l]; exact f.2))) fun g => ?_
      have := g.1
      cases ring <;> cases turned <;> cases this
end
end Ns

/-! Own layer, plain: the tree that is due of a drawn one is the tree of its net. -/
namespace Ns
open PySem PySem.Spec PyProof.Rows L2
def DSort.name : DSort → Str
  | .ap => "apart"
  | .tg => "together"
  | .pr _ _ => "prime"
/-- rising points and the tree that is due -/
inductive DueR : Dr → List Nat → PyData → Prop
  | leaf (x : Nat) : DueR (.leaf x) [x] (.int (x : Int))
  | node {s : DSort} {ks : List Dr} {L : List Nat} (zs : List (Dr × List Nat × PyData)) : (zs.map (·.1)).Perm ks → (∀ z, z ∈ zs → DueR z.1 z.2.1 z.2.2) → (zs.Pairwise fun a b => a.2.1.headD 0 < b.2.1.headD 0) → L.Pairwise (· < ·) → L.Perm (ptsDr ks) →
      DueR (.node s ks) L (.tuple [.str s.name, .tuple (zs.map (·.2.2))])
theorem DueR.perm {d : Dr} {L : List Nat} {D : PyData} (h : DueR d L D) : L.Perm d.pts := by
  cases h with
  | leaf x => rw [Dr.pts]
  | node zs a b c e p => rw [Dr.pts]; exact p
theorem DueR.rising {d : Dr} {L : List Nat} {D : PyData} (h : DueR d L D) : L.Pairwise (· < ·) := by
  cases h with
  | leaf x => exact List.pairwise_singleton _ _
  | node zs a b c e p => exact e
section
variable {T : Tm}
theorem Strg.same {P P' : List Nat} {A A' : Nat → Prop} (h : Strg T P A) (p : ∀ x, x ∈ P' ↔ x ∈ P) (e : ∀ x ∈ P, (A' x ↔ A x)) : Strg T P' A' := by
  have md : ∀ {Q Q' : List Nat} {M M' : Nat → Prop}, (∀ x, x ∈ Q' ↔ x ∈ Q) → (∀ x ∈ Q, (M' x ↔ M x)) → Md T Q M → Md T Q' M' := fun {Q Q' M M'} p e m z hz nz a ha b hb ua ub => by
    have hz := (p z).mp hz
    have ha := (p a).mp ha
    have hb := (p b).mp hb
    exact m z hz (fun k => nz ((e z hz).mpr k)) a ha b hb ((e a ha).mp ua) ((e b hb).mp ub)
  refine ⟨md p e h.md, ?_, fun M hM l => ?_⟩
  · obtain ⟨x, hx, xA⟩ := h.ne
    exact ⟨x, (p x).mpr hx, (e x hx).mpr xA⟩
  · obtain ⟨⟨x, hx, x1, x2⟩, ⟨y, hy, y1, y2⟩, z, hz, z1, z2⟩ := l
    have hx := (p x).mp hx
    have hy := (p y).mp hy
    have hz := (p z).mp hz
    exact h.no M (md (fun x => (p x).symm) (fun _ _ => Iff.rfl) hM) ⟨⟨x, hx, (e x hx).mp x1, x2⟩, ⟨y, hy, (e y hy).mp y1, y2⟩, z, hz, z1, fun k => z2 ((e z hz).mpr k)⟩
theorem Kids.same {P P' : List Nat} {Ms Ls : List (List Nat)} (k : Kids T P Ms) (p : P'.Perm P) (f : Ls.flatten.Perm P') (a : ∀ L ∈ Ls, ∃ M ∈ Ms, ∀ x, x ∈ L ↔ x ∈ M) (b : ∀ M ∈ Ms, ∃ L ∈ Ls, ∀ x, x ∈ M ↔ x ∈ L) : Kids T P' Ls := by
  refine ⟨f, fun L hL => ?_, fun A hA hp => ?_⟩
  · obtain ⟨M, hM, e⟩ := a L hL
    exact (k.str M hM).same (fun x => p.mem_iff) fun x _ => e x
  · obtain ⟨x, hx, nx⟩ := hp
    obtain ⟨M, hM, h⟩ := k.all A (hA.same (fun x => p.mem_iff.symm) fun _ _ => Iff.rfl) ⟨x, p.mem_iff.mp hx, nx⟩
    obtain ⟨L, hL, e⟩ := b M hM
    exact ⟨L, hL, fun y hy yA => (e y).mp (h y (p.mem_iff.mp hy) yA)⟩
variable (S : SyT T)
include S
theorem DOk.tight {b : Bool} {d : Dr} (h : DOk T d) (ne : ∀ l, d ≠ .node (if b then .tg else .ap) l) : Tight T b d.pts := by
  cases h with
  | leaf x => rw [Dr.pts]; exact tight_one T b x
  | node X f _ =>
    rename_i s ks _
    have l : (ks.map Dr.pts).length = ks.length := List.length_map _
    rw [Dr.pts]
    cases s with
    | ap =>
      cases b with
      | false => exact absurd rfl (ne ks)
      | true => exact Parted.tight_all (b := false) S X (by rw [l]; exact f.1)
    | tg =>
      cases b with
      | true => exact absurd rfl (ne ks)
      | false => exact Parted.tight_all (b := true) S X (by rw [l]; exact f.1)
    | pr r t =>
      have X2 : Parted T (ptsDr ks) (ks.map Dr.pts) (primeR r t (ks.map Dr.pts).length) := by rw [l]; exact X
      exact X2.tight_prime S (primeN_of (by rw [l]; exact f.1) (by rw [l]; exact f.2)) (by rw [l]; have := f.1; omega) b
theorem DOk.kids {s : DSort} {ks : List Dr} (h : DOk T (.node s ks)) : Kids T (ptsDr ks) (ks.map Dr.pts) := by
  cases h with
  | node X f hk =>
    have l : (ks.map Dr.pts).length = ks.length := List.length_map _
    cases s with
    | ap => 
      refine Parted.kids_all (b := false) S X (by rw [l]; exact f.1) fun L hL => ?_
      obtain ⟨k, hk1, rfl⟩ := List.mem_map.mp hL
      exact (hk k hk1).tight S (f.2 k hk1)
    | tg => 
      refine Parted.kids_all (b := true) S X (by rw [l]; exact f.1) fun L hL => ?_
      obtain ⟨k, hk1, rfl⟩ := List.mem_map.mp hL
      exact (hk k hk1).tight S (f.2 k hk1)
    | pr r t =>
      have X2 : Parted T (ptsDr ks) (ks.map Dr.pts) (primeR r t (ks.map Dr.pts).length) := by rw [l]; exact X
      exact X2.kids_prime (primeN_of (by rw [l]; exact f.1) (by rw [l]; exact f.2)) (by rw [l]; have := f.1; omega)
omit S in
theorem flat_perm : ∀ {zs : List (Dr × List Nat × PyData)}, (∀ z ∈ zs, z.2.1.Perm z.1.pts) → (zs.map (·.2.1)).flatten.Perm ((zs.map (·.1)).map Dr.pts).flatten
  | [], _ => .nil
  | z :: r, h => by
    simp only [List.map_cons, List.flatten_cons]
    exact (h z (List.mem_cons_self ..)).append (flat_perm fun y hy => h y (List.mem_cons_of_mem _ hy))
theorem DOk.mtr {d : Dr} {L : List Nat} {D : PyData} (r : DueR d L D) : DOk T d → ∃ Ss, MTr T L D Ss := by
  induction r with
  | leaf x => exact fun _ => ⟨_, .leaf x⟩
  | node zs zp zd zo lr lp ih =>
    rename_i s ks L
    intro h
    have kids := h.kids S
    cases h with
    | node X f hk =>
      have memk : ∀ z ∈ zs, z.1 ∈ ks := fun z hz => zp.mem_iff.mp (List.mem_map.mpr ⟨z, hz, rfl⟩)
      have pz : ∀ z ∈ zs, z.2.1.Perm z.1.pts := fun z hz => (zd z hz).perm
      have fl : (zs.map (·.2.1)).flatten.Perm L := by
        refine (flat_perm pz).trans (((zp.map Dr.pts).flatten).trans ?_)
        rw [← ptsDr_eq]
        exact lp.symm
      have k2 : Kids T L (zs.map (·.2.1)) := by
        refine kids.same lp fl (fun A hA => ?_) fun M hM => ?_
        · obtain ⟨z, hz, rfl⟩ := List.mem_map.mp hA
          exact ⟨_, List.mem_map.mpr ⟨z.1, memk z hz, rfl⟩, fun x => (pz z hz).mem_iff⟩
        · obtain ⟨k, hk1, rfl⟩ := List.mem_map.mp hM
          obtain ⟨z, hz, rfl⟩ := List.mem_map.mp (zp.mem_iff.mpr hk1)
          exact ⟨_, List.mem_map.mpr ⟨z, hz, rfl⟩, fun x => (pz z hz).mem_iff.symm⟩
      have lz : zs.length = ks.length := by rw [← zp.length_eq, List.length_map]
      have l2 := DSort.two f
      -- the trees of the parts
      have kidsT : ∀ ys : List (Dr × List Nat × PyData), (∀ z ∈ ys, z ∈ zs) → ∃ Ss, MTrs T (ys.map (·.2.1)) (ys.map (·.2.2)) Ss := by
        intro ys
        induction ys with
        | nil => exact fun _ => ⟨_, .nil⟩
        | cons z ys ih2 =>
          intro hy
          obtain ⟨S2, h2⟩ := ih2 fun y hy' => hy y (List.mem_cons_of_mem _ hy')
          obtain ⟨S1, h1⟩ := ih z (hy z (List.mem_cons_self ..)) (hk z.1 (memk z (hy z (List.mem_cons_self ..))))
          exact ⟨_, .cons h1 h2⟩
      obtain ⟨Ss, ts⟩ := kidsT zs fun _ h => h
      -- the heads
      have hd : ∀ z ∈ zs, z.2.1.headD 0 ∈ z.1.pts := fun z hz => by
        have ne : z.2.1 ≠ [] := kids_ne k2 (List.mem_map.mpr ⟨z, hz, rfl⟩)
        refine (pz z hz).mem_iff.mp ?_
        cases e : z.2.1 with
        | nil => exact absurd e ne
        | cons a r => exact List.mem_cons_self ..
      have idx : ∀ z ∈ zs, ∃ i, i < ks.length ∧ (ks.map Dr.pts)[i]? = some z.1.pts := fun z hz => by
        obtain ⟨i, hi, e⟩ := List.getElem_of_mem (memk z hz)
        exact ⟨i, hi, by rw [List.getElem?_map, List.getElem?_eq_getElem hi, e]; rfl⟩
      have so : SoK T s.name (zs.map (·.2.1)) := by
        have allb : ∀ b : Bool, (∀ i j, i ≠ j → s.R ks.length i j = b) → (zs.map (·.2.1)).Pairwise fun A B => T (A.headD 0) (B.headD 0) = b := fun b hb => by
          rw [List.pairwise_map]
          refine List.Pairwise.imp_of_mem (fun {z z'} hz hz' lt => ?_) zo
          obtain ⟨i, hi, ei⟩ := idx z hz
          obtain ⟨j, hj, ej⟩ := idx z' hz'
          have ne : i ≠ j := fun e => by
            subst e
            rw [ei] at ej
            have e2 := Option.some.inj ej
            have m1 := hd z hz
            have m2 : z.2.1.headD 0 ∈ z'.2.1 := (pz z' hz').mem_iff.mpr (by rw [← e2]; exact m1)
            have m3 : z'.2.1.headD 0 ≤ z.2.1.headD 0 := by
              have ri := (zd z' hz').rising
              cases e3 : z'.2.1 with
              | nil => rw [e3] at m2; cases m2
              | cons a r =>
                rw [e3] at m2 ri
                rcases List.mem_cons.mp m2 with e4 | g
                · show a ≤ _
                  omega
                · have := (List.pairwise_cons.mp ri).1 _ g
                  show a ≤ _
                  omega
            omega
          rw [X.st ei ej ne _ (hd z hz) _ (hd z' hz'), hb i j ne]
        cases s with
        | ap => exact .inl ⟨rfl, allb false fun _ _ _ => rfl⟩
        | tg => exact .inr (.inl ⟨rfl, allb true fun _ _ _ => rfl⟩)
        | pr ring turned =>
          -- two that are tied, two that are not
          have no : ∀ (b : Bool) (i j : Nat), i < ks.length → j < ks.length → i ≠ j → primeR ring turned ks.length i j ≠ b → ¬ (zs.map (·.2.1)).Pairwise fun A B => T (A.headD 0) (B.headD 0) = b := by
            intro b i j hi hj ne hR hp
            rw [List.pairwise_map] at hp
            have get : ∀ m, m < ks.length → ∃ z, z ∈ zs ∧ (ks.map Dr.pts)[m]? = some z.1.pts := fun m hm => by
              obtain ⟨z, hz, e⟩ := List.mem_map.mp (zp.mem_iff.mpr (List.getElem_mem hm))
              exact ⟨z, hz, by rw [List.getElem?_map, List.getElem?_eq_getElem hm, ← e]; rfl⟩
            obtain ⟨z, hz, ei⟩ := get i hi
            obtain ⟨z', hz', ej⟩ := get j hj
            have t := X.st ei ej ne _ (hd z hz) _ (hd z' hz')
            obtain ⟨u, hu, eu⟩ := List.getElem_of_mem hz
            obtain ⟨v, hv, ev⟩ := List.getElem_of_mem hz'
            have uv : u ≠ v := fun e => by
              subst e
              rw [eu] at ev
              subst ev
              exact ne (X.one ei ej (hd z hz) (hd z hz))
            rcases Nat.lt_or_gt_of_ne uv with c | c
            · have := List.pairwise_iff_getElem.mp hp u v hu hv c
              rw [eu, ev, t] at this
              exact hR this
            · have := List.pairwise_iff_getElem.mp hp v u hv hu c
              rw [eu, ev, S.sy, t] at this
              exact hR this
          have h4 := f.1
          have h5 := f.2
          have n01 : nearW ring ks.length 0 1 = true := nearW_iff.mpr (.inl rfl)
          have n02 : nearW ring ks.length 0 2 = false := Bool.eq_false_iff.mpr fun h => by
            rcases nearW_iff.mp h with h | h | ⟨r, h⟩
            · omega
            · omega
            · have := h5 r
              omega
          have both : ∀ b : Bool, ¬ (zs.map (·.2.1)).Pairwise fun A B => T (A.headD 0) (B.headD 0) = b := fun b => by
            by_cases c : primeR ring turned ks.length 0 1 = b
            · refine no b 0 2 (by omega) (by omega) (by decide) fun e => ?_
              rw [← e] at c
              unfold primeR at c
              rw [n01, n02] at c
              cases turned <;> cases c
            · exact no b 0 1 (by omega) (by omega) (by decide) c
          exact .inr (.inr ⟨rfl, both false, both true⟩)
      refine ⟨_, .node lr k2 (by rw [List.length_map]; omega) so (fun A hA => ?_) ?_ ts⟩
      · obtain ⟨z, hz, rfl⟩ := List.mem_map.mp hA
        exact (zd z hz).rising
      · rw [List.pairwise_map]
        exact zo
end
end Ns

/-! Own layer B: the law's draws. -/
namespace Ns
open PySem PySem.Spec PyProof.Rows L2
local macro_rules | `(tactic| walk_at "look") => `(tactic| first | assumption | exact upd_same | (refine (upd_ne (by first | assumption | exact Ne.symm (by assumption))).trans ?_; walk_at "look"))
local macro_rules | `(tactic| walk_at "cond") => `(tactic| first | assumption | omega | (dsimp only; omega) | exact ⟨by omega, by omega⟩ | decide | exact ⟨by decide, by decide, by decide⟩ | exact .inr ⟨by decide, by decide⟩ | exact .inl ⟨by decide, by decide⟩ | exact .inr ⟨by omega, by omega⟩ | exact .inl ⟨by omega, by omega⟩)
local macro_rules | `(tactic| walk_at "rd1") => `(tactic| first
  | refine ⟨_, rfl, ?_⟩
  | refine ⟨_, _, rfl, rfl, ?_⟩
  | refine ⟨rfl, ?_⟩
  | refine ⟨_, _, rfl, rfl, (by walk_at "cond"), ?_⟩
  | refine ⟨_, _, _, _, rfl, rfl, SqL.of (by walk_at "look"), rfl, ?_⟩
  | refine ⟨_, _, _, _, rfl, rfl, SqT.of (by walk_at "look"), rfl, ?_⟩
  | refine ⟨_, _, _, _, rfl, rfl, (by walk_at "look"), rfl, ?_⟩
  | refine .inl ⟨_, rfl, ?_⟩
  | refine ⟨.inl ⟨rfl, _, SqL.of (by walk_at "look")⟩, ?_⟩
  | refine ⟨_, _, rfl, ⟨by omega, by omega, by omega, by omega⟩, ?_⟩
  | refine ⟨_, rfl, (by omega), (by omega), ?_⟩
  | refine And.intro (by walk_at "cond") ?_)
local macro_rules | `(tactic| walk_at "rd") => `(tactic| repeat (walk_at "rd1"))

abbrev N_law_box : List Str := ["script", "x"]
theorem sc_law_box : FnScope N_law_box ["script"] (defScope s_law_box) := ⟨rfl, rfl, rfl, by decide +kernel, rfl, by decide +kernel, by decide +kernel⟩
abbrev N_law_take : List Str := ["box", "m", "at", "cell", "told"]
theorem sc_law_take : FnScope N_law_take ["box", "m"] (defScope s_law_take) := ⟨rfl, rfl, rfl, by decide +kernel, rfl, by decide +kernel, by decide +kernel⟩
abbrev N_law_pick : List Str := ["box", "menu"]
theorem sc_law_pick : FnScope N_law_pick ["box", "menu"] (defScope s_law_pick) := ⟨rfl, rfl, rfl, by decide +kernel, rfl, by decide +kernel, by decide +kernel⟩
/-! ### the box: two lists -/
def Box (H : Hp) (b l : Addr) : Prop := ∃ (c0 c1 c2 : Int) (ns : List Int), H b = some (.lst [.int c0, .int c1, .int c2, .ref l]) ∧ H l = some (.lst (ns.map V.int)) ∧ 0 ≤ c2
theorem Box.ne {H : Hp} {b l : Addr} (x : Box H b l) : l ≠ b := by
  obtain ⟨c0, c1, c2, ns, h1, h2, _⟩ := x
  intro e
  subst e
  rw [h1] at h2
  cases ns with
  | nil => simp at h2
  | cons n ns => cases ns with
    | nil => simp at h2
    | cons m ns => cases ns with
      | nil => simp at h2
      | cons m ns => cases ns with
        | nil => simp at h2
        | cons m ns => simp at h2
/-- all stands but the box at b, which is a box still -/
structure Kp (b l : Addr) (H H' : Hp) : Prop where
  same : ∀ a o, H a = some o → a ≠ b → H' a = some o
  box : Box H' b l
theorem Kp.refl {b l : Addr} {H : Hp} (x : Box H b l) : Kp b l H H := ⟨fun _ _ h _ => h, x⟩
theorem Kp.trans {b l : Addr} {H H1 H2 : Hp} (x : Kp b l H H1) (y : Kp b l H1 H2) : Kp b l H H2 := ⟨fun a o h n => y.same a o (x.same a o h n) n, y.box⟩
theorem Box.same {b l : Addr} {H H' : Hp} (x : Box H b l) (k : Same H H') : Box H' b l := by
  obtain ⟨c0, c1, c2, ns, h1, h2, h3⟩ := x
  exact ⟨c0, c1, c2, ns, k _ _ h1, k _ _ h2, h3⟩
theorem Kp.then {b l : Addr} {H H1 H2 : Hp} (x : Kp b l H H1) (y : Same H1 H2) : Kp b l H H2 := ⟨fun a o h n => y a o (x.same a o h n), x.box.same y⟩
theorem same_new0 {H : Hp} {p : Addr} {o : HO} (h : H p = none) : Same H (upd H p o) := fun b x e => by
  rw [upd_ne (ne_of_none e h)]
  exact e
theorem Kp.new {b l p : Addr} {o : HO} {H H1 : Hp} (x : Kp b l H H1) (h : H1 p = none) : Kp b l H (upd H1 p o) := x.then (same_new0 h)
/-- a store into an object that is new since H -/
theorem Kp.put {b l p : Addr} {o : HO} {H H1 : Hp} (x0 : Box H b l) (x : Kp b l H H1) (h : H p = none) : Kp b l H (upd H1 p o) := by
  obtain ⟨c0, c1, c2, ns, h1, h2, h3⟩ := x0
  refine ⟨fun a u e n => ?_, ?_⟩
  · rw [upd_ne (ne_of_none e h)]
    exact x.same a u e n
  · obtain ⟨d0, d1, d2, ms, g1, g2, g3⟩ := x.box
    exact ⟨d0, d1, d2, ms, by rw [upd_ne (ne_of_none h1 h)]; exact g1, by rw [upd_ne (ne_of_none h2 h)]; exact g2, g3⟩
theorem Kp.free {b l p : Addr} {H H' : Hp} (x0 : Box H b l) (x : Kp b l H H') (h : H' p = none) : H p = none := by
  cases q : H p with
  | none => rfl
  | some o =>
    by_cases e : p = b
    · obtain ⟨_, _, _, _, g, _⟩ := x.box
      rw [e, g] at h
      cases h
    · rw [x.same p o q e] at h
      cases h
theorem Kp.tup {b l p : Addr} {xs : List V} {H H' : Hp} (x0 : Box H b l) (x : Kp b l H H') (h : H p = some (.tup xs)) : H' p = some (.tup xs) := by
  obtain ⟨c0, c1, c2, ns, h1, h2, h3⟩ := x0
  exact x.same _ _ h (ne_of h h1 (by intro z; cases z))
theorem Kp.sx {b l d : Addr} {H H1 H2 : Hp} (x0 : Box H b l) (x : Kp b l H H1) (y : SameX d H1 H2) (h : H d = none) : Kp b l H H2 := by
  obtain ⟨c0, c1, c2, ns, h1, h2, h3⟩ := x0
  obtain ⟨d0, d1, d2, ms, g1, g2, g3⟩ := x.box
  exact ⟨fun a o e n => y a o (x.same a o e n) (ne_of_none e h), d0, d1, d2, ms, y _ _ g1 (ne_of_none h1 h), y _ _ g2 (ne_of_none h2 h), g3⟩
theorem Kp.kt {b l : Addr} {H H' : Hp} (x0 : Box H b l) (x : Kp b l H H') : KeepT H H' := fun _ _ h => x.tup x0 h
/-! ### promises -/
def sp_take : Sp := fun vs H Q _ => ∃ (b l : Addr) (m : Int), vs = [.ref b, .int m] ∧ Box H b l ∧ 0 < m ∧ m < 1073741824 ∧ ∀ (r : Int) (H' : Hp), 0 ≤ r → r < m → Kp b l H H' → Q (.int r) H'
section
variable {P : Program} {w : World} {K : PySem.W.Frag} {mg : Str → Option Value} {base : Heap}
theorem cal_take (A : At K mg "_law_take" s_law_take) (B : Bi mg) : Cal P w K mg base 1 "_law_take" sp_take := by
  have nd := sc_law_take.nd
  refine A.cal sc_law_take (fun _ _ _ _ _ _ us hl => match us, hl with | [_, _], _ => rfl) ?_ fun f cdv A' outer s H vs Q E hr h => ⟨_, (C8.pss_cut (ps_if (pt_cmpR op_eq (pe_ix (ix_listK (K := K) rfl) (pv 0) pe_int (fun _ _ => rfl)) pe_int (nomark _)) (pss_cons (ps_set (i := 2) nd rfl (.inl rfl) (pe_ix (ix_listK (K := K) rfl) (pv 0) pe_int (fun _ _ => rfl)))
  (pss_cons (ps_set (i := 3) nd rfl (.inl rfl) pe_int)
  (C8.pss_cut (ps_if (pt_cmpR op_lt (pv 2) (pe_callB (call_lenK (K := K) rfl) (by rfl) B.len (by decide +kernel) (pa_cons (pe_ix (ix_listK (K := K) rfl) (pv 0) pe_int (fun _ _ => rfl)) pa_nil)) (nomark _)) (pss_cons (ps_set (i := 3) nd rfl (.inl rfl) (pe_ix (ix_listK (K := K) rfl) (pe_ix (ix_listK (K := K) rfl) (pv 0) pe_int (fun _ _ => rfl)) (pv 2) (fun _ _ => rfl)))
  (pss_one (ps_asg (pe_ifExp (pt_cmpR op_ge (pv 3) (pe_op op_pow pe_int pe_int) (nomark _)) pe_int (pe_un un_neg pe_int)) (pg_sub (pv 0) pe_int set_list)))) pss_nil)
  (pss_cons (ps_asg (pe_op op_add (pv 2) pe_int) (pg_sub (pv 0) pe_int set_list))
  (pss_cons (ps_asg (pv 3) (pg_sub (pv 0) pe_int set_list))
  (pss_one (ps_if (pt_cmpR op_eq (pe_ix (ix_listK (K := K) rfl) (pv 0) pe_int (fun _ _ => rfl)) pe_int (nomark _)) (pss_one (ps_ret pe_int)) pss_nil))))))) pss_nil)
  (pss_cons (ps_if (pt_cmpR op_gt (pe_ix (ix_listK (K := K) rfl) (pv 0) pe_int (fun _ _ => rfl)) pe_int (nomark _)) (pss_cons (ps_set (i := 4) nd rfl (.inl rfl) (pe_op op_mod (pe_callTy call_int1 (by rfl) B.int_ (by decide +kernel) (pa_cons (pe_ix (ix_listK (K := K) rfl) (pv 0) pe_int (fun _ _ => rfl)) pa_nil)) (pv 1)))
  (pss_cons (ps_asg (pe_op op_fdiv (pe_ix (ix_listK (K := K) rfl) (pv 0) pe_int (fun _ _ => rfl)) (pv 1)) (pg_sub (pv 0) pe_int set_list))
  (pss_cons (ps_asg (pe_ifExp (pt_cmpR op_gt (pe_ix (ix_listK (K := K) rfl) (pv 0) pe_int (fun _ _ => rfl)) pe_int (nomark _)) (pe_op op_sub (pe_ix (ix_listK (K := K) rfl) (pv 0) pe_int (fun _ _ => rfl)) pe_int) pe_int) (pg_sub (pv 0) pe_int set_list))
  (pss_one (ps_ret (pv 4)))))) pss_nil)
  (pss_cons (ps_asg (pe_op op_add (pe_ix (ix_listK (K := K) rfl) (pv 0) pe_int (fun _ _ => rfl)) pe_int) (pg_sub (pv 0) pe_int set_list))
  (pss_cons (ps_asg (pe_op op_mod (pe_callTy call_int1 (by rfl) B.int_ (by decide +kernel) (pa_cons (pe_op op_add (pe_op op_mul (pe_ix (ix_listK (K := K) rfl) (pv 0) pe_int (fun _ _ => rfl)) pe_int) (pe_op op_mul pe_int (pe_op op_add (pe_ix (ix_listK (K := K) rfl) (pv 0) pe_int (fun _ _ => rfl)) pe_int))) pa_nil)) pe_int) (pg_sub (pv 0) pe_int set_list))
  (pss_one (ps_ret (pe_op op_mod (pe_op op_mod (pe_callTy call_int1 (by rfl) B.int_ (by decide +kernel) (pa_cons (pe_op op_add (pe_op op_fdiv (pe_ix (ix_listK (K := K) rfl) (pv 0) pe_int (fun _ _ => rfl)) pe_int) (pe_ix (ix_listK (K := K) rfl) (pv 0) pe_int (fun _ _ => rfl))) pa_nil)) pe_int) (pv 1)))))))), ?_⟩
  · rintro vs H Q E ⟨b, l, m, rfl, _⟩
    rfl
  · obtain ⟨b, l, m, rfl, ⟨c0, c1, c2, ns, hb, hl, h0⟩, m0, m1, q⟩ := h
    have hne : l ≠ b := Box.ne ⟨c0, c1, c2, ns, hb, hl, h0⟩
    have keep : ∀ {H1 : Hp} {o1 : HO}, (∀ a o, H a = some o → a ≠ b → H1 a = some o) → ∀ a o, H a = some o → a ≠ b → (upd H1 b o1) a = some o := fun h a o e n => by
      rw [upd_ne n]
      exact h a o e n
    have k0 : ∀ a o, H a = some o → a ≠ b → H a = some o := fun a o h _ => h
    have hat : ∀ c2 : Int, 0 ≤ c2 → c2 < ((ns.map V.int).length : Nat) → ∃ z, atI (ns.map V.int) c2 = some (.int z) := fun c2 h1 h2 => by
      have hlt : c2.toNat < ns.length := by simp at h2; omega
      refine ⟨ns[c2.toNat], ?_⟩
      have := atI_nat (xs := ns.map V.int) (j := c2.toNat) (v := .int ns[c2.toNat]) (by rw [List.getElem?_map]; simp [hlt])
      rwa [Int.toNat_of_nonneg h1] at this
    -- if box[1] == 0
    refine ⟨fun σ' H' => ∃ (v2 v3 : Option V) (d0 d1 d2 : Int), σ' = [some (.ref b), some (.int m), v2, v3, none] ∧ H' b = some (.lst [.int d0, .int d1, .int d2, .ref l]) ∧ H' l = some (.lst (ns.map V.int)) ∧ 0 ≤ d2 ∧ (∀ a o, H a = some o → a ≠ b → H' a = some o), ?_, ?_⟩
    · walk_at "rd"
      refine ifI (fun c => ?_) (fun c => ?_)
      · walk_at "rd"
        refine ⟨fun σ' H' => ∃ (d1 c3 : Int), σ' = [some (.ref b), some (.int m), some (.int c2), some (.int c3), none] ∧ H' b = some (.lst [.int c0, .int d1, .int c2, .ref l]) ∧ H' l = some (.lst (ns.map V.int)) ∧ (∀ a o, H a = some o → a ≠ b → H' a = some o), ?_, ?_⟩
        · walk_at "rd"
          refine ⟨_, _, rfl, Or.inl ⟨_, SqL.of hl, rfl⟩, ?_⟩
          walk_at "rd"
          refine ifD (fun c2l => ?_) (fun c2l => ?_)
          · obtain ⟨z, hz⟩ := hat c2 h0 c2l
            walk_at "rd"
            refine ⟨_, _, _, _, rfl, rfl, SqL.of hl, hz, ?_⟩
            walk_at "rd"
            refine ifD (fun cz => ?_) (fun cz => ?_)
            · walk_at "rd"
              exact ⟨_, _, rfl, upd_same, by walk_at "look", keep k0⟩
            · walk_at "rd"
              exact ⟨_, _, rfl, upd_same, by walk_at "look", keep k0⟩
          · exact ⟨_, _, rfl, hb, hl, k0⟩
        · rintro σ' H1 ⟨d1, c3, rfl, hb1, hl1, k1⟩
          walk_at "rd"
          refine ifI (fun c => ?_) (fun c => ?_)
          · refine q _ _ (Int.le_refl _) m0 ⟨keep (keep k1), ?_⟩
            exact ⟨_, _, _, ns, upd_same, by walk_at "look", by omega⟩
          · exact ⟨_, _, _, _, _, rfl, upd_same, by walk_at "look", by omega, keep (keep k1)⟩
      · exact ⟨none, none, c0, c1, c2, rfl, hb, hl, h0, fun a o h _ => h⟩
    · rintro σ' H1 ⟨v2, v3, d0, d1, d2, rfl, hb1, hl1, p2, k1⟩
      walk_at "rd"
      refine ifD (fun c => ?_) (fun c => ?_)
      · walk_at "rd"
        refine ifD (fun c => ?_) (fun c => ?_)
        · walk_at "rd"
          exact q _ _ (Int.emod_nonneg _ (by omega)) (Int.emod_lt_of_pos _ m0) ⟨keep (keep k1), _, _, _, ns, upd_same, by walk_at "look", p2⟩
        · walk_at "rd"
          exact q _ _ (Int.emod_nonneg _ (by omega)) (Int.emod_lt_of_pos _ m0) ⟨keep (keep k1), _, _, _, ns, upd_same, by walk_at "look", p2⟩
      · walk_at "rd"
        exact q _ _ (Int.emod_nonneg _ (by omega)) (Int.emod_lt_of_pos _ m0) ⟨keep (keep k1), _, _, _, ns, upd_same, by walk_at "look", p2⟩
/-! ### the box is made -/
def sp_box (K : PySem.W.Frag) : Sp := fun vs H Q _ => ∃ (a : Addr) (ns : List Int), vs = [.ref a] ∧ SqL K H a (ns.map V.int) ∧ ns.length ≤ 63 ∧ ∀ (b l : Addr) (H' : Hp), Same H H' → Box H' b l → Q (.ref b) H'
theorem cal_box (A : At K mg "_law_box" s_law_box) (B : Bi mg) : Cal P w K mg base 1 "_law_box" (sp_box K) := by
  have nd := sc_law_box.nd
  refine A.cal sc_law_box (fun _ _ _ _ _ _ us hl => match us, hl with | [_], _ => rfl) ?_ fun f cdv A' outer s H vs Q E hr h => ⟨_, (pss_one (ps_ret (pe_lst (pa_cons pe_int (pa_cons pe_int (pa_cons pe_int (pa_cons (pe_lc (own := [("x", 1)]) rfl nd (pi_listK (K := K) rfl (pv 0)) (blkOk_by (own := [("x", 1)]) (N := N_law_box) (sc := defScope s_law_box) (by decide +kernel)) (fun _ _ _ _ _ => (pg_name (i := 1) nd rfl (.inl rfl) (.inr rfl))) (fun _ _ _ _ _ => pts_nil) (fun _ _ _ _ _ => (pe_callB call_abs (by rfl) B.abs (by decide +kernel) (pa_cons (pe_callTy call_int1 (by rfl) B.int_ (by decide +kernel) (pa_cons (pv 1) pa_nil)) pa_nil)))) pa_nil))))))), ?_⟩
  · rintro vs H Q E ⟨a, ns, rfl, _⟩
    rfl
  · obtain ⟨a, ns, rfl, hS, hn, q⟩ := h
    refine ⟨_, rfl, a, rfl, ⟨_, hS⟩, fun D hD => ?_⟩
    refine comp_list persNm (fun z : Int => some (if z < 0 then -z else z)) persNm hD hS (by rw [List.length_map]; exact sizeBig (by omega)) (pairedNm H ns) ?_ ?_
    · rintro z x H1 Yes No hz rfl sm yes no
      walk_at "rd"
      exact yes _ rfl _ _ (Same.refl _) rfl
    · intro H1 ys sm hy pr
      refine ⟨by show 4 ≤ sizeLine; decide, fun p hp => ?_⟩
      have e := pairedNm_eq pr
      subst e
      have hne : p ≠ D := fun e => by rw [e, hy] at hp; cases hp
      exact q p D _ (sNew sm hp) ⟨0, 0, 0, _, upd_same, by rw [upd_ne (Ne.symm hne)]; exact hy, Int.le_refl _⟩
/-! ### an item of a menu -/
def sp_pick (K : PySem.W.Frag) : Sp := fun vs H Q _ => ∃ (b l m : Addr) (xs : List V), vs = [.ref b, .ref m] ∧ Box H b l ∧ ((H m = some (.lst xs) ∧ m ≠ b) ∨ H m = some (.tup xs)) ∧ xs ≠ [] ∧ xs.length < 1073741824 ∧
  ∀ (v : V) (H' : Hp), v ∈ xs → Kp b l H H' → Q v H'
theorem cal_pick (A : At K mg "_law_pick" s_law_pick) (B : Bi mg) (c_law_take : Cal P w K mg base 1 "_law_take" sp_take) : Cal P w K mg base 2 "_law_pick" (sp_pick K) := by
  have nd := sc_law_pick.nd
  refine A.cal sc_law_pick (fun _ _ _ _ _ _ us hl => match us, hl with | [_, _], _ => rfl) ?_ fun f cdv A' outer s H vs Q E hr h => ⟨_, (pss_one (ps_ret (pe_ix (ix_seqK (K := K) rfl) (pv 1) (pe_cal c_law_take hr (by first | decide | omega) (by rfl) passE (pa_cons (pv 0) (pa_cons (pe_callB (call_lenK (K := K) rfl) (by rfl) B.len (by decide +kernel) (pa_cons (pv 1) pa_nil)) pa_nil))) (fun _ _ => rfl)))), ?_⟩
  · rintro vs H Q E ⟨b, l, m, xs, rfl, _⟩
    rfl
  · obtain ⟨b, l, m, xs, rfl, hb, hm, hx, hn, q⟩ := h
    have hpos : 0 < xs.length := List.length_pos_iff.mpr hx
    have hz : (xs.length : Int) < 1073741824 := by omega
    walk_at "rd"
    refine ⟨_, _, rfl, hm.elim (fun h => .inl ⟨_, SqL.of h.1, rfl⟩) (fun h => .inr ⟨_, SqT.of h, rfl⟩), ?_⟩
    refine ⟨b, l, _, rfl, hb, by omega, hz, fun r H' r0 r1 k => ?_⟩
    have hat : xs[r.toNat]? = some xs[r.toNat] := by simp [show r.toNat < xs.length by omega]
    have hat2 : atI xs r = some xs[r.toNat] := by
      have := atI_nat hat
      rwa [Int.toNat_of_nonneg r0] at this
    have q' := q _ H' (List.mem_of_getElem? hat) k
    rcases hm with ⟨h, hne⟩ | h
    · exact .inl ⟨_, _, _, _, rfl, rfl, SqL.of (k.same _ _ h hne), hat2, q'⟩
    · exact .inr (.inl ⟨_, _, _, _, rfl, rfl, SqT.of (k.tup hb h), hat2, q'⟩)
end
end Ns

/-! Own layer C: nets that the law draws. -/
namespace Ns
open PySem PySem.Spec PyProof.Rows L2
local macro_rules | `(tactic| walk_at "look") => `(tactic| first | assumption | exact upd_same | (refine (upd_ne (by first | assumption | exact Ne.symm (by assumption))).trans ?_; walk_at "look"))
local macro_rules | `(tactic| walk_at "cond") => `(tactic| first | assumption | omega | (dsimp only; omega) | exact ⟨by omega, by omega⟩ | decide | exact ⟨by decide, by decide, by decide⟩ | exact .inr ⟨by decide, by decide⟩ | exact .inl ⟨by decide, by decide⟩ | exact .inr ⟨by omega, by omega⟩ | exact .inl ⟨by omega, by omega⟩)
local macro_rules | `(tactic| walk_at "rd1") => `(tactic| first
  | refine ⟨_, rfl, ?_⟩
  | refine ⟨_, _, rfl, rfl, ?_⟩
  | refine ⟨rfl, ?_⟩
  | refine ⟨_, _, rfl, rfl, (by walk_at "cond"), ?_⟩
  | refine ⟨_, _, _, _, rfl, rfl, SqL.of (by walk_at "look"), rfl, ?_⟩
  | refine ⟨_, _, _, _, rfl, rfl, SqT.of (by walk_at "look"), rfl, ?_⟩
  | refine ⟨_, _, _, _, rfl, rfl, (by walk_at "look"), rfl, ?_⟩
  | refine .inl ⟨_, rfl, ?_⟩
  | refine ⟨.inl ⟨rfl, _, SqL.of (by walk_at "look")⟩, ?_⟩
  | refine ⟨_, _, rfl, ⟨by omega, by omega, by omega, by omega⟩, ?_⟩
  | refine ⟨_, rfl, (by omega), (by omega), ?_⟩
  | refine And.intro (by walk_at "cond") ?_)
local macro_rules | `(tactic| walk_at "rd") => `(tactic| repeat (walk_at "rd1"))

abbrev N_law_pairs : List Str := ["n", "pairs", "x", "y"]
theorem sc_law_pairs : FnScope N_law_pairs ["n"] (defScope s_law_pairs) := ⟨rfl, rfl, rfl, by decide +kernel, rfl, by decide +kernel, by decide +kernel⟩
abbrev N_law_made : List Str := ["n", "there", "x", "y"]
theorem sc_law_made : FnScope N_law_made ["n", "there"] (defScope s_law_made) := ⟨rfl, rfl, rfl, by decide +kernel, rfl, by decide +kernel, by decide +kernel⟩
abbrev N_law_row : List Str := ["box", "n", "row", "x"]
theorem sc_law_row : FnScope N_law_row ["box", "n"] (defScope s_law_row) := ⟨rfl, rfl, rfl, by decide +kernel, rfl, by decide +kernel, by decide +kernel⟩
section
variable {P : Program} {w : World} {K : PySem.W.Frag} {mg : Str → Option Value} {base : Heap}
def sp_pairs : Sp := fun vs H Q _ => ∃ n : Nat, vs = [pI n] ∧ n ≤ 1000 ∧ ∀ (p : Addr) (us : List V) (H' : Hp), Same H H' → H p = none → H' p = some (.lst us) → Paired (Pr H') us (allPairs n) → Q (.ref p) H'
theorem rowP_eq {n x : Nat} {m : Nat} (h : m = n - (x + 1)) : (List.range m).filterMap (fun k => some (x, x + 1 + k)) = rowP n x := by
  subst h
  unfold rowP
  rw [← List.filterMap_eq_map]
  rfl
theorem cal_pairs (A : At K mg "_law_pairs" s_law_pairs) (B : Bi mg) : Cal P w K mg base 1 "_law_pairs" sp_pairs := by
  have nd := sc_law_pairs.nd
  refine A.cal sc_law_pairs (fun _ _ _ _ _ _ us hl => match us, hl with | [_], _ => rfl) ?_ fun f cdv A' outer s H vs Q E hr h => ⟨_, (pss_cons (ps_set (i := 1) nd rfl (.inl rfl) (pe_lst pa_nil))
  (pss_cons (ps_for passOwn rfl (pi_range1 (by rfl) B.range (pa_cons (pv 0) pa_nil)) (pg_name (i := 2) nd rfl (.inr rfl)) (pss_one (ps_expr (pe_bm PySem.F.plainAttrs_list PySem.F.slot_list_extend PySem.F.type_list_extend mt_extend (pv 1) (pa_cons (pe_lc (own := [("y", 3)]) rfl nd (pi_range2 (by rfl) B.range (pa_cons (pe_op op_add (pv 2) pe_int) (pa_cons (pv 0) pa_nil))) (blkOk_by (own := [("y", 3)]) (N := N_law_pairs) (sc := defScope s_law_pairs) (by decide +kernel)) (fun _ _ _ _ _ => (pg_name (i := 3) nd rfl (.inl rfl) (.inr rfl))) (fun _ _ _ _ _ => pts_nil) (fun _ _ _ _ _ => (pe_tup (pa_cons (pv 2) (pa_cons (pv 3) pa_nil))))) pa_nil)))))
  (pss_one (ps_ret (pv 1))))), ?_⟩
  · rintro vs H Q E ⟨n, rfl, _⟩
    rfl
  · obtain ⟨n, rfl, hn, q⟩ := h
    refine ⟨Nat.zero_le _, fun p hp => ?_⟩
    refine ⟨_, rfl, _, rfl, by omega, by omega, for_range (lo := 0) (n := n) (fun i σ H1 => ∃ v2, σ = [some (pI n), some (.ref p), v2, none] ∧ Same H H1 ∧ ∃ us, H1 p = some (.lst us) ∧ Paired (Pr H1) us ((List.range i).flatMap (rowP n))) ⟨none, rfl, same_laid hp, [], upd_same, by simpa using Paired.nil⟩ ?_ ?_⟩
    · rintro i σ H1 hi ⟨v2, rfl, sm, us, hu, pr⟩
      walk_at "rd"
      intro D hD
      have hpD : p ≠ D := ne_of_none hu hD
      have len1 : us.length ≤ 1000 * 1000 := by
        have h1 := flat_len (rowP n) n (rowP_len n) (List.range i)
        rw [List.length_range] at h1
        have h2 := pr.length
        have h3 : i * n ≤ 1000 * 1000 := Nat.mul_le_mul (by omega) hn
        omega
      refine comp_range (n := ((n : Int) - (0 + (i : Int) + 1)).toNat) (sizeBig (by omega)) (fun k => some (i, i + 1 + k)) persPr hD ?_ ?_
      · intro k H2 Yes No hk sm2 yes no
        walk_at "rd"
        refine ⟨by show 2 ≤ sizeLine; decide, fun t ht => ?_⟩
        exact yes _ rfl _ _ (same_laid ht) (prMk upd_same (by simp) (by simp <;> omega))
      · intro H2 ys sm2 hy pr2
        rw [rowP_eq (n := n) (by omega)] at pr2
        have len2 := rowP_len n i
        have len3 := pr2.length
        refine ⟨_, _, _, _, rfl, rfl, sm2 _ _ hu, hy, Nat.le_of_lt (sizeBig (by omega)), ?_⟩
        have kt : KeepT H2 (upd H2 p (.lst (us ++ ys))) := KeepT.lst (sm2 _ _ hu)
        refine ⟨some (pI i), ?_, sPut (sm.trans sm2) hp, _, upd_same, ?_⟩
        · simp [pI, L2.start]
        · rw [List.range_succ, List.flatMap_append]
          refine pApp (pMono persPr ((sKt sm2).trans kt) pr) ?_
          simpa using pMono persPr kt pr2
    · rintro σ H1 ⟨v2, rfl, sm, us, hu, pr⟩
      walk_at "rd"
      exact q p us H1 sm hp hu pr
def either (kvs : DT) (p : Nat × Nat) : Bool := hasP kvs p || hasP kvs (p.2, p.1)
def sp_made : Sp := fun vs H Q _ => ∃ (n : Nat) (d : Addr) (kvs : DT), vs = [pI n, .ref d] ∧ n ≤ 1000 ∧ H d = some (.dT kvs) ∧ ∀ (v : V) (H' : Hp), Same H H' → Net H' v n ((allPairs n).filter (either kvs)) → Q v H'
theorem cal_made (A : At K mg "_law_made" s_law_made) (B : Bi mg) (c_law_pairs : Cal P w K mg base 1 "_law_pairs" sp_pairs) : Cal P w K mg base 2 "_law_made" sp_made := by
  have nd := sc_law_made.nd
  refine A.cal sc_law_made (fun _ _ _ _ _ _ us hl => match us, hl with | [_, _], _ => rfl) ?_ fun f cdv A' outer s H vs Q E hr h => ⟨_, (pss_one (ps_ret (pe_tup (pa_cons (pv 0) (pa_cons (pe_callTy (call_tuple_ofK (K := K) rfl) (by rfl) B.tuple (by decide +kernel) (pa_cons (pe_lc (own := [("x", 2), ("y", 3)]) rfl nd (pi_listK (K := K) rfl (pe_cal c_law_pairs hr (by first | decide | omega) (by rfl) passE (pa_cons (pv 0) pa_nil))) (blkOk_by (own := [("x", 2), ("y", 3)]) (N := N_law_made) (sc := defScope s_law_made) (by decide +kernel)) (fun _ _ _ _ _ => (pg_tupK (K := K) (n := 2) rfl rfl (pgs_cons (pg_name (i := 2) nd rfl (.inl rfl) (.inr rfl)) (pgs_cons (pg_name (i := 3) nd rfl (.inl rfl) (.inr rfl)) pgs_nil)))) (fun _ _ _ _ _ => (pts_one (PW.pt (pw_or (pt_cmp (pc_din (hu_of hr) (pe_tup (pa_cons (pv 2) (pa_cons (pv 3) pa_nil))) (pv 1)) rfl) (pw_or1 (pt_cmp (pc_din (hu_of hr) (pe_tup (pa_cons (pv 3) (pa_cons (pv 2) pa_nil))) (pv 1)) rfl)))))) (fun _ _ _ _ _ => (pe_tup (pa_cons (pv 2) (pa_cons (pv 3) pa_nil))))) pa_nil)) pa_nil))))), ?_⟩
  · rintro vs H Q E ⟨n, d, kvs, rfl, _⟩
    rfl
  · obtain ⟨n, d, kvs, rfl, hn, hd, q⟩ := h
    walk_at "rd"
    intro p us H1 sm np hu pr
    refine ⟨p, rfl, ⟨_, SqL.of hu⟩, fun D hD => ?_⟩
    have len1 := pr.length
    have len2 := allPairs_len n
    have len3 : n * n ≤ 1000 * 1000 := Nat.mul_le_mul hn hn
    refine comp_list persPr (fun x => if either kvs x then some x else none) persPr hD (SqL.of hu) (sizeBig (by omega)) pr ?_ ?_
    · rintro x v H2 Yes No hx ⟨t, rfl, ht⟩ sm2 yes no
      have hd2 : H2 d = some (.dT kvs) := sm2 _ _ (sm _ _ hd)
      have fin : ∀ H3, Same H2 H3 → either kvs x = true → ∀ (t1 : Addr), H3 t1 = none → Yes (.ref t1) (upd H3 t1 (.tup [pI x.1, pI x.2])) := fun H3 s3 e t1 h1 =>
        yes x (by rw [e]; rfl) _ _ (sNew s3 h1) ⟨t1, rfl, upd_same⟩
      refine ⟨t, _, rfl, SqT.of ht, rfl, _, _, rfl, _, _, rfl, rfl, rfl, ?_⟩
      walk_at "rd"
      refine ⟨by show 2 ≤ sizeLine; decide, fun t1 h1 => ?_⟩
      walk_at "rd"
      refine ⟨_, _, rfl, dgetP (x := x) (by rw [upd_ne (ne_of_none hd2 h1)]; exact hd2) upd_same rfl rfl, ?_⟩
      refine ⟨_, rfl, ifB (fun e => ?_) (fun e => ?_)⟩
      · refine iteT ?_
        walk_at "rd"
        refine ⟨by show 2 ≤ sizeLine; decide, fun t2 h2 => ?_⟩
        exact fin _ (same_laid h1) (by unfold either; rw [show hasP kvs x = true from e]; rfl) t2 h2
      · walk_at "rd"
        refine ⟨by show 2 ≤ sizeLine; decide, fun t2 h2 => ?_⟩
        have s2 := sNew (same_laid (o := .tup [pI x.1, pI x.2]) h1) (o := .tup [pI x.2, pI x.1]) h2
        walk_at "rd"
        refine ⟨_, _, rfl, dgetP (x := (x.2, x.1)) (s2 _ _ hd2) upd_same rfl rfl, ?_⟩
        refine ⟨_, rfl, ifB (fun e2 => ?_) (fun e2 => ?_)⟩
        · walk_at "rd"
          refine ⟨by show 2 ≤ sizeLine; decide, fun t3 h3 => ?_⟩
          exact fin _ s2 (by unfold either; rw [show hasP kvs (x.2, x.1) = true from e2, Bool.or_true]) t3 h3
        · exact no (by unfold either; rw [show hasP kvs x = false from e, show hasP kvs (x.2, x.1) = false from e2]; rfl) _ s2
    · intro H2 ys sm2 hy pr2
      have e : (allPairs n).filterMap (fun x => if either kvs x then some x else none) = (allPairs n).filter (either kvs) := by
        rw [← List.filterMap_eq_filter]
        rfl
      rw [e] at pr2
      refine ⟨_, _, rfl, .inl ⟨SqL.of hy, fun t ht => ?_⟩⟩
      refine ⟨by show 2 ≤ sizeLine; decide, fun t2 h2 => ?_⟩
      refine q _ _ (sNew (sNew (sm.trans sm2) ht) h2) ⟨t2, .ref t, rfl, upd_same, t, ys, rfl, ?_, ?_⟩
      · rw [upd_ne (ne_of_none upd_same h2)]
        exact upd_same
      · exact pMono persPr ((KeepT.new ht).trans (KeepT.new h2)) pr2
/-! ### all points in a drawn order -/
/-- a tuple of points, its object known -/
def Row (H : Hp) (v : V) (xs : List Nat) : Prop := ∃ (t : Addr) (o : Obj), v = .ref t ∧ H t = some (.frz o (.tup (xs.map pI))) ∧ o.dict = none
theorem Row.same {H H' : Hp} {v : V} {xs : List Nat} (x : Row H v xs) (k : Same H H') : Row H' v xs := by
  obtain ⟨t, o, e, h, d⟩ := x
  exact ⟨t, o, e, k _ _ h, d⟩
theorem Row.kp {b l : Addr} {H H' : Hp} {v : V} {xs : List Nat} (hb : Box H b l) (x : Row H v xs) (k : Kp b l H H') : Row H' v xs := by
  obtain ⟨t, o, e, h, d⟩ := x
  obtain ⟨_, _, _, _, g, _⟩ := hb
  exact ⟨t, o, e, k.same _ _ h (ne_of h g (by intro z; cases z)), d⟩
theorem first_at : ∀ {xs : List Nat} {x : Nat}, x ∈ xs → ∃ j : Nat, xs[j]? = some x ∧ ∀ m : Nat, m < j → xs[m]? ≠ some x
  | [], _, h => by cases h
  | y :: ys, x, h => by
    by_cases e : y = x
    · exact ⟨0, by rw [e]; rfl, fun m hm => by omega⟩
    · obtain ⟨j, h1, h2⟩ := first_at (xs := ys) (x := x) ((List.mem_cons.mp h).resolve_left (fun z => e z.symm))
      refine ⟨j + 1, by simpa using h1, fun m hm => ?_⟩
      cases m with
      | zero => simpa using e
      | succ m => simpa using h2 m (by omega)
theorem first_atI {xs : List Nat} {x : Nat} (h : x ∈ xs) : ∃ j : Nat, (xs.map fun z : Nat => (z : Int))[j]? = some (x : Int) ∧ ∀ m : Nat, m < j → (xs.map fun z : Nat => (z : Int))[m]? ≠ some (x : Int) := by
  obtain ⟨j, h1, h2⟩ := first_at h
  refine ⟨j, by rw [List.getElem?_map, h1]; rfl, fun m hm e => ?_⟩
  rw [List.getElem?_map] at e
  cases q : xs[m]? with
  | none => rw [q] at e; cases e
  | some z =>
    rw [q] at e
    have e2 : (z : Int) = x := Option.some.inj e
    exact h2 m hm (by rw [q]; congr 1; omega)
theorem map_pI (xs : List Nat) : xs.map pI = (xs.map fun z : Nat => (z : Int)).map V.int := by
  rw [List.map_map]
  rfl
def sp_row : Sp := fun vs H Q _ => ∃ (b l : Addr) (n : Nat), vs = [.ref b, pI n] ∧ n ≤ 1000 ∧ Box H b l ∧ ∀ (v : V) (xs : List Nat) (H' : Hp), xs.Perm (List.range n) → Row H' v xs → Kp b l H H' → Q v H'
theorem cal_row (A : At K mg "_law_row" s_law_row) (B : Bi mg) (c_law_take : Cal P w K mg base 1 "_law_take" sp_take) : Cal P w K mg base 2 "_law_row" sp_row := by
  have nd := sc_law_row.nd
  refine A.cal sc_law_row (fun _ _ _ _ _ _ us hl => match us, hl with | [_, _], _ => rfl) ?_ fun f cdv A' outer s H vs Q E hr h => ⟨_, (pss_cons (ps_set (i := 2) nd rfl (.inl rfl) (pe_lst pa_nil))
  (pss_cons (ps_for passOwn rfl (pi_range1 (by rfl) B.range (pa_cons (pv 1) pa_nil)) (pg_name (i := 3) nd rfl (.inl rfl)) (pss_one (ps_expr (pe_bm PySem.F.plainAttrs_list PySem.F.slot_list_insert PySem.F.type_list_insert mt_insert (pv 2) (pa_cons (pe_cal c_law_take hr (by first | decide | omega) (by rfl) passE (pa_cons (pv 0) (pa_cons (pe_op op_add (pv 3) pe_int) pa_nil))) (pa_cons (pv 3) pa_nil))))))
  (pss_one (ps_ret (pe_callTy (call_tuple_ofF (K := K) rfl) (by rfl) B.tuple (by decide +kernel) (pa_cons (pv 2) pa_nil)))))), ?_⟩
  · rintro vs H Q E ⟨b, l, n, rfl, _⟩
    rfl
  · obtain ⟨b, l, n, rfl, hn, hb, q⟩ := h
    refine ⟨Nat.zero_le _, fun p hp => ?_⟩
    have hpb : p ≠ b := fun e => by
      obtain ⟨_, _, _, _, g, _⟩ := hb
      rw [e, g] at hp
      cases hp
    refine ⟨_, rfl, _, rfl, by omega, by omega, for_range (lo := 0) (n := n) (fun i σ H1 => ∃ v3, σ = [some (.ref b), some (pI n), some (.ref p), v3] ∧ Kp b l H H1 ∧ ∃ xs : List Nat, H1 p = some (.lst (xs.map pI)) ∧ xs.Perm (List.range i)) ⟨none, rfl, (Kp.refl hb).then (same_laid hp), [], upd_same, List.Perm.refl _⟩ ?_ ?_⟩
    · rintro i σ H1 hi ⟨v3, rfl, k1, xs, hx, pm⟩
      walk_at "rd"
      refine ⟨b, l, _, rfl, k1.box, by omega, by omega, fun r H2 r0 r1 k2 => ?_⟩
      walk_at "rd"
      have hx2 : H2 p = some (.lst (xs.map pI)) := k2.same _ _ hx hpb
      have hl : xs.length = i := by rw [pm.length_eq, List.length_range]
      refine ⟨p, _, r, _, rfl, rfl, hx2, by rw [List.length_map, hl]; exact sizeBig (by omega), r0, by omega, ?_⟩
      refine ⟨_, rfl, (k1.trans k2).put hb hp, xs.take r.toNat ++ [i] ++ xs.drop r.toNat, ?_, ?_⟩
      · rw [upd_same]
        simp [List.map_take, List.map_drop, pI]
      · have e1 : (xs.take r.toNat ++ [i] ++ xs.drop r.toNat).Perm (xs ++ [i]) := by
          rw [List.append_assoc]
          refine (List.Perm.append_left _ (List.perm_append_comm)).trans ?_
          rw [← List.append_assoc, List.take_append_drop]
        rw [List.range_succ]
        exact e1.trans (pm.append_right _)
    · rintro σ H1 ⟨v3, rfl, k1, xs, hx, pm⟩
      walk_at "rd"
      refine ⟨_, _, rfl, SqL.of hx, fun t o ht hd => ?_⟩
      exact q _ xs _ pm ⟨t, o, rfl, upd_same, hd⟩ (k1.new ht)
/-! ### dicts of ties -/
def spBy : Sp := fun vs H Q _ => ∃ (b l : Addr) (n : Nat), vs = [.ref b, pI n] ∧ n ≤ 1000 ∧ Box H b l ∧ ∀ (d : Addr) (kvs : DT) (H' : Hp), H d = none → H' d = some (.dT kvs) → KeysIn n kvs → Kp b l H H' → Q (.ref d) H'
theorem box_ne {H : Hp} {b l p : Addr} (hb : Box H b l) (hp : H p = none) : p ≠ b := fun e => by
  obtain ⟨_, _, _, _, g, _⟩ := hb
  rw [e, g] at hp
  cases hp
/-! ### twins -/
end
end Ns

/-! Own layer P: the program's looks at nets. -/
namespace Ns
open PySem PySem.Spec PyProof.Rows L2
local macro_rules | `(tactic| walk_at "look") => `(tactic| first | assumption | exact upd_same | (refine (upd_ne (by first | assumption | exact Ne.symm (by assumption))).trans ?_; walk_at "look"))
local macro_rules | `(tactic| walk_at "cond") => `(tactic| first | assumption | omega | (dsimp only; omega) | exact ⟨by omega, by omega⟩ | decide | exact ⟨by decide, by decide, by decide⟩ | exact .inr ⟨by decide, by decide⟩ | exact .inl ⟨by decide, by decide⟩ | exact .inr ⟨by omega, by omega⟩ | exact .inl ⟨by omega, by omega⟩)
local macro_rules | `(tactic| walk_at "rd1") => `(tactic| first
  | refine ⟨_, rfl, ?_⟩
  | refine ⟨_, _, rfl, rfl, ?_⟩
  | refine ⟨rfl, ?_⟩
  | refine ⟨_, _, rfl, rfl, (by walk_at "cond"), ?_⟩
  | refine ⟨_, _, _, _, rfl, rfl, SqL.of (by walk_at "look"), rfl, ?_⟩
  | refine ⟨_, _, _, _, rfl, rfl, SqT.of (by walk_at "look"), rfl, ?_⟩
  | refine ⟨_, _, _, _, rfl, rfl, (by walk_at "look"), rfl, ?_⟩
  | refine .inl ⟨_, rfl, ?_⟩
  | refine ⟨.inl ⟨rfl, _, SqL.of (by walk_at "look")⟩, ?_⟩
  | refine ⟨_, _, rfl, ⟨by omega, by omega, by omega, by omega⟩, ?_⟩
  | refine ⟨_, rfl, (by omega), (by omega), ?_⟩
  | refine And.intro (by walk_at "cond") ?_)
local macro_rules | `(tactic| walk_at "rd") => `(tactic| repeat (walk_at "rd1"))

abbrev N_is_number : List Str := ["x"]
theorem sc_is_number : FnScope N_is_number ["x"] (defScope s_is_number) := ⟨rfl, rfl, rfl, by decide +kernel, rfl, by decide +kernel, by decide +kernel⟩
abbrev N_is_pair : List Str := ["x"]
theorem sc_is_pair : FnScope N_is_pair ["x"] (defScope s_is_pair) := ⟨rfl, rfl, rfl, by decide +kernel, rfl, by decide +kernel, by decide +kernel⟩
abbrev N_is_net : List Str := ["x", "before", "pair"]
theorem sc_is_net : FnScope N_is_net ["x"] (defScope s_is_net) := ⟨rfl, rfl, rfl, by decide +kernel, rfl, by decide +kernel, by decide +kernel⟩
abbrev N_check_net : List Str := ["x"]
theorem sc_check_net : FnScope N_check_net ["x"] (defScope s_check_net) := ⟨rfl, rfl, rfl, by decide +kernel, rfl, by decide +kernel, by decide +kernel⟩
section
variable {P : Program} {w : World} {K : PySem.W.Frag} {mg : Str → Option Value} {base : Heap}
def sp_is_number (K : PySem.W.Frag) : Sp := fun vs H Q _ => ∃ (v : V) (d : PyData), vs = [v] ∧ Dp K H v d ∧ Q (.bl (isNumD d)) H
theorem cal_is_number (A : At K mg "is_number" s_is_number) (B : Bi mg) : Cal P w K mg base 1 "is_number" (sp_is_number K) := by
  have nd := sc_is_number.nd
  refine A.cal sc_is_number (fun _ _ _ _ _ _ us hl => match us, hl with | [_], _ => rfl) ?_ fun f cdv A' outer s H vs Q E hr h => ⟨_, (pss_one (ps_ret (pe_and (pe_callB (call_isiK' (K := K) rfl) (by rfl) B.isinstance (by decide +kernel) (pa_cons (pv 0) (pa_cons (pe_bltn (v := .ty "int") (u := .type "int") (by rfl) B.int_ (by decide +kernel) rfl) pa_nil))) (pe_one (pe_not (pe_callB (call_isiK' (K := K) rfl) (by rfl) B.isinstance (by decide +kernel) (pa_cons (pv 0) (pa_cons (pe_bltn (v := .ty "bool") (u := .type "bool") (by rfl) B.bool (by decide +kernel) rfl) pa_nil)))))))), ?_⟩
  · rintro vs H Q E ⟨v, d, rfl, _⟩
    rfl
  · obtain ⟨v, d, rfl, hd, q⟩ := h
    refine ⟨_, rfl, _, .ty "int", .type (tyName _), .type "int", _, rfl, .ty _, tyX_of hd, kit_ty (kit_isi _ "int" (by simp)), ?_⟩
    rw [isi_int]
    refine ⟨_, rfl, ifB (fun c => ?_) (fun c => ?_)⟩
    · refine ⟨_, rfl, _, .ty "bool", .type (tyName _), .type "bool", _, rfl, .ty _, tyX_of hd, kit_ty (kit_isi _ "bool" (by simp)), ?_⟩
      rw [isi_bool]
      refine ⟨_, rfl, ?_⟩
      cases d <;> first | exact q | cases c
    · cases d <;> first | exact q | cases c
def sp_is_pair (K : PySem.W.Frag) : Sp := fun vs H Q _ => ∃ (v : V) (d : PyData), vs = [v] ∧ Dp K H v d ∧ Q (.bl (isPairD d)) H
theorem cal_is_pair (A : At K mg "is_pair" s_is_pair) (B : Bi mg) (c_is_number : Cal P w K mg base 1 "is_number" (sp_is_number K)) : Cal P w K mg base 2 "is_pair" (sp_is_pair K) := by
  have nd := sc_is_pair.nd
  refine A.cal sc_is_pair (fun _ _ _ _ _ _ us hl => match us, hl with | [_], _ => rfl) ?_ fun f cdv A' outer s H vs Q E hr h => ⟨_, (pss_one (ps_ret (pe_and (pe_callB (call_isiK' (K := K) rfl) (by rfl) B.isinstance (by decide +kernel) (pa_cons (pv 0) (pa_cons (pe_bltn (v := .ty "tuple") (u := .type "tuple") (by rfl) B.tuple (by decide +kernel) rfl) pa_nil))) (pe_and (pe_cmpR op_eq (pe_callB (call_lenK (K := K) rfl) (by rfl) B.len (by decide +kernel) (pa_cons (pv 0) pa_nil)) pe_int (nomark _)) (pe_and (pe_cal c_is_number hr (by first | decide | omega) (by rfl) passE (pa_cons (pe_ix (ix_seqK (K := K) rfl) (pv 0) pe_int (fun _ _ => rfl)) pa_nil)) (pe_one (pe_cal c_is_number hr (by first | decide | omega) (by rfl) passE (pa_cons (pe_ix (ix_seqK (K := K) rfl) (pv 0) pe_int (fun _ _ => rfl)) pa_nil)))))))), ?_⟩
  · rintro vs H Q E ⟨v, d, rfl, _⟩
    rfl
  · obtain ⟨v, d, rfl, hd, q⟩ := h
    refine ⟨_, rfl, _, .ty "tuple", .type (tyName _), .type "tuple", _, rfl, .ty _, tyX_of hd, kit_ty (kit_isi _ "tuple" (by simp)), ?_⟩
    rw [isi_tuple]
    refine ⟨_, rfl, ifB (fun c => ?_) (fun c => ?_)⟩
    · cases hd with
      | tup hs ha =>
        rename_i a xs ds
        have hlen := DpAll.len ha
        refine ⟨_, rfl, _, _, rfl, .inr ⟨_, hs, rfl⟩, rfl, _, rfl, ifI (fun c2 => ?_) (fun c2 => ?_)⟩
        · have l2 : ds.length = 2 := by omega
          obtain ⟨d0, d1, rfl⟩ : ∃ d0 d1, ds = [d0, d1] := by
            match ds, l2 with
            | [d0, d1], _ => exact ⟨d0, d1, rfl⟩
          obtain ⟨v0, h0, g0⟩ := dpAt2 (i := 0) ha rfl
          obtain ⟨v1, h1, g1⟩ := dpAt2 (i := 1) ha rfl
          refine ⟨_, rfl, .inr (.inl ⟨_, _, _, _, rfl, rfl, hs, atI_nat (j := 0) h0, ?_⟩)⟩
          refine ⟨v0, d0, rfl, g0, _, rfl, ifB (fun c3 => ?_) (fun c3 => ?_)⟩
          · refine ⟨_, rfl, .inr (.inl ⟨_, _, _, _, rfl, rfl, hs, atI_nat (j := 1) h1, ?_⟩)⟩
            refine ⟨v1, d1, rfl, g1, ?_⟩
            have e : isPairD (.tuple [d0, d1]) = isNumD d1 := by
              cases d0 <;> first | (cases c3; done) | (cases d1 <;> rfl)
            rw [← e]
            exact q
          · have e : isPairD (.tuple [d0, d1]) = false := by
              cases d0 <;> first | (cases c3; done) | rfl
            rw [← e]
            exact q
        · have e : isPairD (.tuple ds) = false := by
            match ds, hlen with
            | [], _ => rfl
            | [_], _ => simp [isPairD]
            | [_, _], h => exact absurd (by rw [h]; rfl) c2
            | _ :: _ :: _ :: _, _ => simp [isPairD]
          rw [← e]
          exact q
      | _ => cases c
    · have e : isPairD d = false := by cases d <;> first | rfl | cases c
      rw [← e]
      exact q
/-! ### is_net -/
theorem okFrom_cons {n : Int} {b : Int × Int} {d : PyData} {r : List PyData} (h : isPairD d = false) : okFrom n b (d :: r) = false := by
  cases hh : okFrom n b (d :: r) with
  | false => rfl
  | true =>
    exfalso
    unfold okFrom at hh
    split at hh
    · rename_i e
      cases e
    · rename_i e
      cases e
      cases h
    · cases hh
def sp_is_net (K : PySem.W.Frag) : Sp := fun vs H Q _ => ∃ (v : V) (d : PyData), vs = [v] ∧ Dp K H v d ∧ ∀ H', Same H H' → Q (.bl (isNetD d)) H'
theorem cal_is_net (A : At K mg "is_net" s_is_net) (B : Bi mg) (hM : ∃ t, mg "MOST" = some (.int 40 t)) (c_is_number : Cal P w K mg base 1 "is_number" (sp_is_number K)) (c_is_pair : Cal P w K mg base 2 "is_pair" (sp_is_pair K)) : Cal P w K mg base 3 "is_net" (sp_is_net K) := by
  have nd := sc_is_net.nd
  obtain ⟨tM, c_MOST⟩ := hM
  refine A.cal sc_is_net (fun _ _ _ _ _ _ us hl => match us, hl with | [_], _ => rfl) ?_ fun f cdv A' outer s H vs Q E hr h => ⟨_, (pss_cons (ps_if (PW.pt (pw_or (pt_not (pt_val (pe_callB (call_isiK' (K := K) rfl) (by rfl) B.isinstance (by decide +kernel) (pa_cons (pv 0) (pa_cons (pe_bltn (v := .ty "tuple") (u := .type "tuple") (by rfl) B.tuple (by decide +kernel) rfl) pa_nil))))) (pw_or (pt_cmpR op_ne (pe_callB (call_lenK (K := K) rfl) (by rfl) B.len (by decide +kernel) (pa_cons (pv 0) pa_nil)) pe_int (nomark _)) (pw_or (pt_not (pt_val (pe_cal c_is_number hr (by first | decide | omega) (by rfl) passE (pa_cons (pe_ix (ix_seqK (K := K) rfl) (pv 0) pe_int (fun _ _ => rfl)) pa_nil)))) (pw_or1 (pt_not (pt_val (pe_callB (call_isiK' (K := K) rfl) (by rfl) B.isinstance (by decide +kernel) (pa_cons (pe_ix (ix_seqK (K := K) rfl) (pv 0) pe_int (fun _ _ => rfl)) (pa_cons (pe_bltn (v := .ty "tuple") (u := .type "tuple") (by rfl) B.tuple (by decide +kernel) rfl) pa_nil)))))))))) (pss_one (ps_ret pe_bl)) pss_nil)
  (pss_cons (ps_if (pt_not (pt_chain op_le op_le pe_int (pe_ix (ix_seqK (K := K) rfl) (pv 0) pe_int (fun _ _ => rfl)) (pe_glob (v := .int 40) rfl c_MOST ⟨_, rfl⟩))) (pss_one (ps_ret pe_bl)) pss_nil)
  (pss_cons (ps_set (i := 1) nd rfl (.inl rfl) (pe_tup (pa_cons (pe_un un_neg pe_int) (pa_cons (pe_un un_neg pe_int) pa_nil))))
  (pss_cons (ps_for passOwn rfl (pi_tupK (K := K) rfl (pe_ix (ix_seqK (K := K) rfl) (pv 0) pe_int (fun _ _ => rfl))) (pg_name (i := 2) nd rfl (.inl rfl)) (pss_cons (ps_if (PW.pt (pw_or (pt_not (pt_val (pe_cal c_is_pair hr (by first | decide | omega) (by rfl) passE (pa_cons (pv 2) pa_nil)))) (pw_or (pt_not (pt_chain3 op_le op_lt op_lt pe_int (pe_ix (ix_tupK (K := K) rfl) (pv 2) pe_int (fun _ _ => rfl)) (pe_ix (ix_tupK (K := K) rfl) (pv 2) pe_int (fun _ _ => rfl)) (pe_ix (ix_seqK (K := K) rfl) (pv 0) pe_int (fun _ _ => rfl)))) (pw_or1 (pt_not (pt_cmpR (op_ltTK (K := K) rfl hr.units0) (pv 1) (pv 2) (nomark _))))))) (pss_one (ps_ret pe_bl)) pss_nil)
  (pss_one (ps_set (i := 1) nd rfl (.inl rfl) (pv 2)))))
  (pss_one (ps_ret pe_bl)))))), ?_⟩
  · rintro vs H Q E ⟨v, d, rfl, _⟩
    rfl
  · obtain ⟨v, d, rfl, hd, q⟩ := h
    have no : isNetD d = false → Q (.bl false) H := fun e => by
      rw [← e]
      exact q H (Same.refl H)
    refine ⟨_, rfl, _, .ty "tuple", .type (tyName _), .type "tuple", _, rfl, .ty _, tyX_of hd, kit_ty (kit_isi _ "tuple" (by simp)), ?_⟩
    rw [isi_tuple]
    refine ⟨_, rfl, ?_⟩
    cases hd with
    | tup hs ha =>
      rename_i a xs ds
      have hlen := DpAll.len ha
      refine ⟨_, rfl, _, _, rfl, .inr ⟨_, hs, rfl⟩, rfl, _, rfl, ifNI (fun c2 => ?_) (fun c2 => ?_)⟩
      · refine iteT (no ?_)
        match ds, hlen with
        | [], _ => rfl
        | [_], _ => simp [isNetD]
        | [_, _], h => exact absurd (by rw [h]; rfl) c2
        | _ :: _ :: _ :: _, _ => simp [isNetD]
      · have l2 : ds.length = 2 := by omega
        obtain ⟨d0, d1, rfl⟩ : ∃ d0 d1, ds = [d0, d1] := by
          match ds, l2 with
          | [d0, d1], _ => exact ⟨d0, d1, rfl⟩
        obtain ⟨v0, h0, g0⟩ := dpAt2 (i := 0) ha rfl
        obtain ⟨v1, h1, g1⟩ := dpAt2 (i := 1) ha rfl
        have hx0 : atI xs 0 = some v0 := atI_nat (j := 0) h0
        have hx1 : atI xs 1 = some v1 := atI_nat (j := 1) h1
        refine ⟨_, rfl, .inr (.inl ⟨_, _, _, _, rfl, rfl, hs, hx0, v0, d0, rfl, g0, _, rfl, ?_⟩)⟩
        cases g0 with
        | int n =>
          refine ⟨_, rfl, .inr (.inl ⟨_, _, _, _, rfl, rfl, hs, hx1, _, .ty "tuple", .type (tyName _), .type "tuple", _, rfl, .ty _, tyX_of g1, kit_ty (kit_isi _ "tuple" (by simp)), ?_⟩)⟩
          rw [isi_tuple]
          refine ⟨_, rfl, ?_⟩
          cases g1 with
          | tup ts ta =>
            rename_i a1 us ps
            -- 0 <= x[0] <= MOST
            have bound : ∀ {p : Prop}, ¬ (0 ≤ n ∧ n ≤ 40) → isNetD (.tuple [.int n, .tuple ps]) = false := fun hn => by
              show (decide (0 ≤ n ∧ n ≤ 40) && okFrom n (-1, -1) ps) = false
              rw [decide_eq_false hn]
              rfl
            refine ⟨_, rfl, .inr (.inl ⟨_, _, _, _, rfl, rfl, hs, hx0, _, _, rfl, rfl, _, rfl, ifD (fun c3 => ?_) (fun c3 => ?_)⟩)⟩
            · refine ⟨_, _, rfl, rfl, _, rfl, ifN (fun c4 => ?_) (fun c4 => ?_)⟩
              · exact no (bound (p := True) fun e => by simp at c4; omega)
              · have hn0 : 0 ≤ n ∧ n ≤ 40 := ⟨c3, by simpa using c4⟩
                have en : isNetD (.tuple [.int n, .tuple ps]) = okFrom n (-1, -1) ps := by
                  show (decide (0 ≤ n ∧ n ≤ 40) && okFrom n (-1, -1) ps) = okFrom n (-1, -1) ps
                  rw [decide_eq_true hn0]
                  rfl
                rw [en] at q
                -- before = (-1, -1)
                refine ⟨_, rfl, _, rfl, by show 2 ≤ sizeLine; decide, fun t0 ht0 => ?_⟩
                have s1 := same_laid (o := .tup [.int (-1), .int (-1)]) ht0
                refine ⟨_, rfl, .inr (.inl ⟨_, _, _, _, rfl, rfl, sqT_same s1 hs, hx1, a1, rfl, ⟨_, sqT_same s1 ts⟩, ?_⟩)⟩
                have lu := DpAll.len ta
                refine for_tup (K := K) (a := a1) (xs := us) (fun i σ H1 => H1 = upd H t0 (.tup [.int (-1), .int (-1)]) ∧ ∃ (bt : Addr) (bx bz : Int) (v2 : Option V), σ = [some (.ref a), some (.ref bt), v2] ∧ SqT K H1 bt ([bx, bz].map V.int) ∧ okFrom n (-1, -1) ps = okFrom n (bx, bz) (ps.drop i))
                  ⟨rfl, t0, -1, -1, none, rfl, SqT.of upd_same, rfl⟩ (fun i σ H1 _ ⟨e, _⟩ => by rw [e]; exact sqT_same s1 ts) ?_ ?_
                · rintro i y σ H1 hy ⟨rfl, bt, bx, bz, v2, rfl, hb, eo⟩
                  obtain ⟨dy, hdy, gy⟩ := dpAt ta hy
                  have gy1 := Dp.same s1 _ _ gy
                  have hdrop : ps.drop i = dy :: ps.drop (i + 1) := by
                    rw [List.drop_eq_getElem_cons (List.getElem?_eq_some_iff.mp hdy).1, (List.getElem?_eq_some_iff.mp hdy).2]
                  rw [hdrop] at eo
                  have stop : okFrom n (bx, bz) (dy :: ps.drop (i + 1)) = false → Q (.bl false) (upd H t0 (.tup [.int (-1), .int (-1)])) := fun e => by
                    have := q _ s1
                    rw [eo, e] at this
                    exact this
                  refine ⟨_, rfl, y, dy, rfl, gy1, _, rfl, ifN (fun c5 => ?_) (fun c5 => ?_)⟩
                  · exact stop (okFrom_cons c5)
                  · obtain ⟨x, z, rfl⟩ : ∃ x z, dy = .tuple [.int x, .int z] := by
                      unfold isPairD at c5
                      split at c5
                      · exact ⟨_, _, rfl⟩
                      · cases c5
                    cases gy1 with
                    | tup ys ya =>
                      rename_i ya1 yv
                      obtain ⟨w0, k0, j0⟩ := dpAt2 (i := 0) ya rfl
                      obtain ⟨w1, k1, j1⟩ := dpAt2 (i := 1) ya rfl
                      cases j0
                      cases j1
                      have lyv := DpAll.len ya
                      have eyv : yv = [x, z].map V.int := by
                        match yv, lyv, k0, k1 with
                        | [y0, y1], _, k0, k1 =>
                          have e0 := Option.some.inj k0
                          have e1 := Option.some.inj k1
                          rw [e0, e1]
                          rfl
                      subst eyv
                      have eok : okFrom n (bx, bz) (.tuple [.int x, .int z] :: ps.drop (i + 1)) = ((decide (0 ≤ x ∧ x < z ∧ z < n) && HT.lexLt [bx, bz] [x, z]) && okFrom n (x, z) (ps.drop (i + 1))) := rfl
                      rw [eok] at stop eo
                      have bad : ¬ (0 ≤ x ∧ x < z ∧ z < n) → Q (.bl false) (upd H t0 (.tup [.int (-1), .int (-1)])) := fun e => stop (by rw [decide_eq_false e]; rfl)
                      refine ⟨_, rfl, _, _, _, _, rfl, rfl, ys, rfl, _, _, rfl, rfl, _, rfl, ifD (fun c6 => ?_) (fun c6 => ?_)⟩
                      · refine ⟨_, rfl, _, _, _, _, rfl, rfl, ys, rfl, _, _, rfl, rfl, _, rfl, ifD (fun c7 => ?_) (fun c7 => ?_)⟩
                        · refine ⟨_, rfl, .inr (.inl ⟨_, _, _, _, rfl, rfl, sqT_same s1 hs, hx0, _, _, rfl, rfl, _, rfl, ifN (fun c8 => ?_) (fun c8 => ?_)⟩)⟩
                          · exact bad fun e => by simp at c8; omega
                          · have c8 : z < n := by simpa using c8
                            have good : decide (0 ≤ x ∧ x < z ∧ z < n) = true := decide_eq_true ⟨c6, c7, c8⟩
                            refine ⟨_, rfl, _, rfl, bt, ya1, [bx, bz], [x, z], rfl, rfl, hb, ys, _, rfl, ifN (fun c9 => ?_) (fun c9 => ?_)⟩
                            · exact stop (by rw [good, c9]; rfl)
                            · refine ⟨_, rfl, rfl, ya1, x, z, _, rfl, ys, ?_⟩
                              rw [eo, good, c9]
                              rfl
                        · refine ⟨_, rfl, ?_⟩
                          exact bad fun e => c7 e.2.1
                      · refine ⟨_, rfl, ?_⟩
                        exact bad fun e => c6 e.1
                · rintro σ H1 ⟨rfl, bt, bx, bz, v2, rfl, hb, eo⟩
                  have := q _ s1
                  rw [eo, lu, List.drop_length] at this
                  exact this
            · refine ⟨_, rfl, ?_⟩
              exact no (bound (p := True) fun e => c3 e.1)
          | _ => exact no (by simp [isNetD])
        | _ => exact no (by simp [isNetD])
    | _ => exact no rfl
/-! ### check_net -/
def sp_check_net (K : PySem.W.Frag) (CB : Addr) : Sp := fun vs H Q E => ∃ (v : V) (d : PyData), vs = [v] ∧ Dp K H v d ∧ (isNetD d = true → ∀ H', Same H H' → Q .non H') ∧ (isNetD d = false → ∀ H', Same H H' → E (.ref CB) none H')
theorem cal_check_net {CB : Addr} (A : At K mg "check_net" s_check_net) (x_BadNet : ExcC K mg "BadNet" CB) (c_is_net : Cal P w K mg base 3 "is_net" (sp_is_net K)) : Cal P w K mg base 4 "check_net" (sp_check_net K CB) := by
  have nd := sc_check_net.nd
  refine A.cal sc_check_net (fun _ _ _ _ _ _ us hl => match us, hl with | [_], _ => rfl) ?_ fun f cdv A' outer s H vs Q E hr h => ⟨_, (pss_one (ps_if (pt_not (pt_val (pe_cal c_is_net hr (by first | decide | omega) (by rfl) passE (pa_cons (pv 0) pa_nil)))) (pss_one (ps_raise rfl (takes_of rfl rfl rfl rfl) (pmk_own0 PySem.F.excBase_ValueError x_BadNet.ex x_BadNet.g x_BadNet.kp (raises_own x_BadNet.sub x_BadNet.ty) (by rfl)))) pss_nil)), ?_⟩
  · rintro vs H Q E ⟨v, d, rfl, _⟩
    rfl
  · obtain ⟨v, d, rfl, hd, q1, q2⟩ := h
    refine ⟨_, rfl, v, d, rfl, hd, fun H' sm => ⟨_, rfl, ifN (fun c => ?_) (fun c => ?_)⟩⟩
    · exact q2 c H' sm
    · exact q1 c H' sm
end
end Ns

/-! Own layer: small looks of laws: whole numbers, what is said; lists of tuples as data. -/
namespace Ns
open PySem PySem.Spec PyProof.Rows L2
local macro_rules | `(tactic| walk_at "look") => `(tactic| first | assumption | exact upd_same | (refine (upd_ne (by first | assumption | exact Ne.symm (by assumption))).trans ?_; walk_at "look"))
local macro_rules | `(tactic| walk_at "cond") => `(tactic| first | assumption | omega | (dsimp only; omega) | exact ⟨by omega, by omega⟩ | decide | exact ⟨by decide, by decide, by decide⟩ | exact .inr ⟨by decide, by decide⟩ | exact .inl ⟨by decide, by decide⟩ | exact .inr ⟨by omega, by omega⟩ | exact .inl ⟨by omega, by omega⟩)
local macro_rules | `(tactic| walk_at "rd1") => `(tactic| first
  | refine ⟨_, rfl, ?_⟩
  | refine ⟨_, _, rfl, rfl, ?_⟩
  | refine ⟨rfl, ?_⟩
  | refine ⟨_, _, rfl, rfl, (by walk_at "cond"), ?_⟩
  | refine ⟨_, _, _, _, rfl, rfl, SqL.of (by walk_at "look"), rfl, ?_⟩
  | refine ⟨_, _, _, _, rfl, rfl, SqT.of (by walk_at "look"), rfl, ?_⟩
  | refine ⟨_, _, _, _, rfl, rfl, (by walk_at "look"), rfl, ?_⟩
  | refine .inl ⟨_, rfl, ?_⟩
  | refine ⟨.inl ⟨rfl, _, SqL.of (by walk_at "look")⟩, ?_⟩
  | refine ⟨_, _, rfl, ⟨by omega, by omega, by omega, by omega⟩, ?_⟩
  | refine ⟨_, rfl, (by omega), (by omega), ?_⟩
  | refine And.intro (by walk_at "cond") ?_)
local macro_rules | `(tactic| walk_at "rd") => `(tactic| repeat (walk_at "rd1"))

abbrev N_law_says : List Str := ["x", "due"]
theorem sc_law_says : FnScope N_law_says ["x", "due"] (defScope s_law_says) := ⟨rfl, rfl, rfl, by decide +kernel, rfl, by decide +kernel, by decide +kernel⟩
theorem dps_natsC {K : PySem.W.Frag} {H : Hp} : ∀ ns : List Nat, DpAll K H (ns.map pI) (ns.map fun x : Nat => PyData.int x)
  | [] => .nil
  | _ :: r => .cons (.int _) (dps_natsC r)
theorem dps_intsC {K : PySem.W.Frag} {H : Hp} : ∀ ns : List Int, DpAll K H (ns.map V.int) (ns.map PyData.int)
  | [] => .nil
  | _ :: r => .cons (.int _) (dps_intsC r)
theorem natsC_lay : ∀ l : List Nat, PyData.canLayAll0 (l.map fun x : Nat => PyData.int x) = true ∧ PyData.depthAll (l.map fun x : Nat => PyData.int x) ≤ 3
  | [] => ⟨rfl, by decide⟩
  | x :: r => by
    obtain ⟨h1, h2⟩ := natsC_lay r
    refine ⟨?_, ?_⟩
    · show (true && PyData.canLayAll0 (r.map _)) = true
      rw [h1]
      rfl
    · have : PyData.depth (PyData.int x) ≤ 3 := by simp [PyData.depth]
      simp only [List.map_cons, PyData.depthAll]
      omega
theorem rowsC_lay : ∀ ls : List (List Nat), PyData.canLayAll0 (ls.map datN) = true ∧ PyData.depthAll (ls.map datN) ≤ 6
  | [] => ⟨rfl, by decide⟩
  | l :: r => by
    obtain ⟨h1, h2⟩ := rowsC_lay r
    obtain ⟨h3, h4⟩ := natsC_lay l
    refine ⟨?_, ?_⟩
    · show (PyData.canLayAll0 (l.map _) && PyData.canLayAll0 (r.map _)) = true
      rw [h1, h3]
      rfl
    · have : PyData.depth (datN l) ≤ 6 := by
        unfold datN
        simp only [PyData.depth]
        omega
      simp only [List.map_cons, PyData.depthAll]
      omega
theorem sh_rowsL (ls : List (List Nat)) : SeqAt.shaped (.list (ls.map datN)) = true := by
  obtain ⟨h1, h2⟩ := rowsC_lay ls
  have d : (PyData.list (ls.map datN)).depth ≤ 10 := by
    simp only [PyData.depth]
    omega
  show (PyData.canLayAll0 (ls.map datN) && decide _) = true
  rw [h1, decide_eq_true (by omega)]
  rfl
theorem ptC_dp {K : PySem.W.Frag} {H : Hp} : ∀ {us : List V} {L : List (List Nat)}, Paired (PtC H) us L → DpAll K H us (L.map datN)
  | _, _, .nil => .nil
  | _, _, .cons ⟨t, e, h⟩ p => by
    rw [e]
    exact .cons (.tup (SqT.of h) (dps_natsC _)) (ptC_dp p)
section
variable {P : Program} {w : World} {K : PySem.W.Frag} {mg : Str → Option Value} {base : Heap}
def sp_says : Sp := fun vs H Q _ => ∃ a b : Bool, vs = [.bl a, .bl b] ∧ Q (.bl (a == b)) H
theorem cal_says (A : At K mg "_law_says" s_law_says) (B : Bi mg) : Cal P w K mg base 1 "_law_says" sp_says := by
  have nd := sc_law_says.nd
  refine A.cal sc_law_says (fun _ _ _ _ _ _ us hl => match us, hl with | [_, _], _ => rfl) ?_ fun f cdv A' outer s H vs Q E hr h => ⟨_, (pss_one (ps_ret (pe_and (pe_or (pe_cmpR op_isBl (pv 0) pe_bl (nomark _)) (pe_one (pe_cmpR op_isBl (pv 0) pe_bl (nomark _)))) (pe_one (pe_cmpR op_eq (pv 0) (pv 1) (nomark _)))))), ?_⟩
  · rintro vs H Q E ⟨a, b, rfl, _⟩
    rfl
  · obtain ⟨a, b, rfl, q⟩ := h
    have q2 : (tOp rEq (tVar 0) (tVar 1)) [some (.bl a), some (.bl b)] H Q := by
      refine ⟨_, rfl, _, rfl, rfl, ?_⟩
      have e : decide (V.bl a = V.bl b) = (a == b) := by cases a <;> cases b <;> rfl
      rw [e]
      exact q
    cases a
    · exact ⟨_, rfl, _, _, rfl, rfl, _, rfl, iteF ⟨_, rfl, _, _, rfl, rfl, _, rfl, iteT q2⟩⟩
    · exact ⟨_, rfl, _, _, rfl, rfl, _, rfl, iteT ⟨_, rfl, iteT q2⟩⟩
theorem sqT_kp {b l a : Addr} {H H' : Hp} {xs : List V} (hb : Box H b l) (k : Kp b l H H') (h : SqT K H a xs) : SqT K H' a xs := by
  obtain ⟨c0, c1, c2, ns', g1, _, _⟩ := hb
  rcases h with (h | ⟨o, h⟩) | h
  · exact .inl (.inl (k.same _ _ h (ne_of h g1 (by intro z; cases z))))
  · exact .inl (.inr ⟨o, k.same _ _ h (ne_of h g1 (by intro z; cases z))⟩)
  · exact .inr h
end
end Ns

/-! Own layer I: enumerate over a tuple. -/
namespace PySem
open Sem (wp)
open Builtin
open AutoSeq1 (wpAny_loadPart')
set_option maxHeartbeats 1000000 in
theorem meets_enum_newT (l : Addr) (o : Obj) (items : Array Value) (n : Nat) (hc : o.cls = .type "tuple") (hd : o.data = .seq items n) :
    Meets (Builtin.«enumerate.__new__» ⟨[.type "enumerate", .ref l], []⟩) (fun _ R s => s.heap.get? l = some o ∧
      R (.ok (.ret (.ref (s.heap.push { cls := .type "tuple_iterator", data := .fields #[.ref l, .int 0 0] }).objs.size)))
        { s with heap := (s.heap.push { cls := .type "tuple_iterator", data := .fields #[.ref l, .int 0 0] }).push { cls := .type "enumerate", data := .fields #[.none, .bool false, .ref s.heap.objs.size, rawInt 0, .none, .none] } }) :=
  .of_wp fun prog w A R s h => by
    obtain ⟨hp, g, d, tk, os⟩ := s
    obtain ⟨hl, h⟩ := h
    have hsub := sub_enumerate
    have hL : Heap.IsTuple (Shared.heap ⟨hp, g, d, tk, os⟩) l items := ⟨_, hl, hc, n, hd⟩
    wp_walk using wpAny_loadPart' hl
    refine wpAny_stack_any fun st => wpAny_pure ?_
    split
    · rename_i c _ _ _ _ _
      cases (c == Value.type "enumerate")
      · wp_walk using wpAny_loadPart' hl, wpAny_pyIter_tuple hL
        exact ⟨_, rfl, h⟩
      · wp_walk using wpAny_loadPart' hl, wpAny_pyIter_tuple hL
        exact ⟨_, rfl, h⟩
    · wp_walk using wpAny_loadPart' hl, wpAny_pyIter_tuple hL
      exact ⟨_, rfl, h⟩
section
variable {prog : Program} {w : World} {A : Around} {E : Value → Shared → Prop} {s : Shared}
theorem call_enumT {l : Addr} {items : Array Value} {Q : Value → Shared → Prop} (hL : s.heap.IsTuple l items)
    (h : ∀ h', IsEnum h' (s.heap.objs.size + 1) s.heap.objs.size 0 .none → h'.IsTupleIter s.heap.objs.size l 0 →
      (∀ b o, s.heap.get? b = some o → h'.get? b = some o) → Q (.ref (s.heap.objs.size + 1)) { s with heap := h' }) :
    wpAny (model prog w) A (call (.type "enumerate") [.ref l]) Q E s := by
  obtain ⟨o, hl, hc, n, hd⟩ := hL
  refine callType_new F.called_enumerate (by decide) (F.typeCall_enumerate_1 _) (F.newCall_enumerate_1 _)
    (fun obj => F.args_object_init_2 obj _) F.entry_enumerate_new (meets_enum_newT l o items n hc hd) ⟨hl, ?_⟩
  have hz : (s.heap.push { cls := .type "tuple_iterator", data := .fields #[.ref l, .int 0 0] }).objs.size = s.heap.objs.size + 1 := Heap.size_push ..
  show _ ∧ _
  rw [hz]
  have he : IsEnum ((s.heap.push { cls := .type "tuple_iterator", data := .fields #[.ref l, .int 0 0] }).push
      { cls := .type "enumerate", data := .fields #[.none, .bool false, .ref s.heap.objs.size, rawInt 0, .none, .none] }) (s.heap.objs.size + 1) s.heap.objs.size 0 .none := by
    have z := Heap.get?_push_size (s.heap.push { cls := .type "tuple_iterator", data := .fields #[.ref l, .int 0 0] })
      (o := { cls := .type "enumerate", data := .fields #[.none, .bool false, .ref s.heap.objs.size, rawInt 0, .none, .none] }) rfl
    rw [hz] at z
    exact z
  exact ⟨⟨_, he, rfl⟩, h _ he ⟨_, Heap.get?_push_of_some _ (Heap.get?_push_size _ rfl), rfl, rfl⟩ fun b o x => Heap.get?_push_of_some _ (Heap.get?_push_of_some _ x)⟩
end
end PySem
namespace Ns
open PySem PySem.Spec PyProof.Rows L2
/-- the tuple at a, each item in a new pair -/
def IteT (K : PySem.W.Frag) (a : Addr) : It :=
  ⟨fun i H => ∃ (xs : List V) (x : V), SqT K H a xs ∧ xs[i]? = some x, fun i H v H' => ∃ T x, v = .ref T ∧ H T = none ∧ H' = upd H T (.tup [.int (i : Nat), x]) ∧ ∀ xs, SqT K H a xs → xs[i]? = some x, fun i H => ∃ xs : List V, SqT K H a xs ∧ xs.length ≤ i⟩
theorem tuple_ne {h : Heap} {a b : Addr} {o : Obj} {its : Array Value} (t : h.IsTuple a its) (e : h.get? b = some o) (n : o.cls ≠ .type "tuple") : a ≠ b := by
  obtain ⟨o', ho, hc, _⟩ := t
  intro z
  rw [z, e] at ho
  cases ho
  exact n hc
theorem turn_enumT {P : Program} {w : World} {K : PySem.W.Frag} {elts : List Expr} {kk : Nat} {tpos : Pos} (a e it : Addr) :
    Turn P w K (.Tuple elts kk tpos) (IteT K a) [e, it] e (fun i h => (∃ old, IsEnum h e it ((i : Nat) : Int) old) ∧ h.IsTupleIter it a i ∧ e ≠ it) where
  mem := by simp
  obj := fun i h st b hb => by
    obtain ⟨⟨old, he⟩, ⟨o, ho, hc, hd⟩, _⟩ := st
    have e' : b = e ∨ b = it := by simpa using hb
    rcases e' with z | z
    · rw [z]; exact ⟨_, he, fun v q => nomatch q⟩
    · rw [z]; exact ⟨o, ho, fun v q => by rw [hd] at q; cases q⟩
  keep := fun i h h' st k => by
    obtain ⟨⟨old, he⟩, hi, hne⟩ := st
    exact ⟨⟨old, k e (by simp) _ he⟩, hi.at (fun o q => k it (by simp) o q), hne⟩
  item := by
    intro X hP hw hK hc i pins s σ H E I hf st hg
    subst hP hw hK
    obtain ⟨⟨old, he⟩, hit, hne⟩ := st
    obtain ⟨xs, x, hq, hx⟩ := hg
    obtain ⟨its, rv, p, hz⟩ := I.tuple hq
    have p : s.heap.IsTuple a its.toArray := p
    obtain ⟨u, hu, ru⟩ := rv.get hx
    have hel : e < s.heap.objs.size := Heap.lt_size he
    obtain ⟨oi, hoi, hci, _⟩ := id hit
    have hil : it < s.heap.objs.size := Heap.lt_size hoi
    have ne1 : a ≠ it := tuple_ne p hoi (by rw [hci]; decide)
    have ne2 : a ≠ e := tuple_ne p he (by intro z; exact absurd (Value.type.inj z) (by decide))
    refine wpAny_pyNext_enum_itemD (Draws.tuple (A := X.A.in1) (I.ok.hd hc) it a ne1 its.toArray) he ⟨hit, p⟩ ?_ hne ?_ ?_
    · have := (List.getElem?_eq_some_iff.mp hu).1
      simpa using this
    · simp only [List.mem_cons, List.not_mem_nil, or_false, not_or]
      exact ⟨hne, ne2.symm⟩
    · intro y h' tk hy ho hst' hT hsz hk
      have ey : y = u := by
        have h1 : its[i]? = some y := by simpa using hy
        rw [hu] at h1
        exact (Option.some.inj h1).symm
      subst ey
      refine ⟨_, rfl, wpAny_letOwnedTupleGo_enum (s := { s with heap := h', toks := tk + 1 }) ho fun h'' he' sb => ?_⟩
      have hT2 : h''.get? s.heap.objs.size = some { cls := .type "tuple", data := .seq #[.int i tk, y] } := (sb.2 _ (Nat.ne_of_gt hel)).trans hT
      have new : ObjOk X.prog X.w (upd H s.heap.objs.size (.tup [.int (i : Nat), x])) h'' s.heap.objs.size (.tup [.int (i : Nat), x]) :=
        ⟨by show 2 ≤ sizeLine; decide, [.int i tk, y], .cons ⟨_, rfl⟩ (.cons ru .nil), ⟨_, hT2, rfl, _, rfl⟩⟩
      have I1 : Inv X pins σ (upd H s.heap.objs.size (.tup [.int (i : Nat), x])) { s with heap := h'', toks := tk + 1 } := by
        refine I.turnedNew (ch := [e, it]) (fun b ob hb q => ?_) hf (Nat.le_refl _) new
        have n1 : b ≠ e := fun z => hb (by simp [z])
        have n2 : b ≠ it := fun z => hb (by simp [z])
        exact (sb.2 b n1).trans (hk b ob n1 n2 q)
      refine ⟨.ref s.heap.objs.size, _, I1, rfl, ⟨_, x, rfl, I.hok.fresh (Nat.le_refl _), rfl, fun ys hy => by rw [I.tuple_inj hy hq]; exact hx⟩, ⟨⟨y, ?_⟩, hst'.1.at (fun o q => (sb.2 it (Ne.symm hne)).trans q), hne⟩, fun b hb => ?_⟩
      · have e1 : ((i + 1 : Nat) : Int) = (i : Int) + 1 := by omega
        rw [e1]
        exact he'
      · have hb' : b < s.heap.objs.size := by
          have e' : b = e ∨ b = it := by simpa using hb
          rcases e' with z | z
          · rw [z]; exact hel
          · rw [z]; exact hil
        rw [upd_ne (Nat.ne_of_lt hb')]
        exact (hf b hb).1
  done := by
    intro X hP hw hK hc i pins s σ H E I hf st hg
    subst hP hw hK
    obtain ⟨⟨old, he⟩, hit, hne⟩ := st
    obtain ⟨xs, hq, hx⟩ := hg
    obtain ⟨its, rv, p, hz⟩ := I.tuple hq
    have p : s.heap.IsTuple a its.toArray := p
    obtain ⟨f0, f1, f2, f3, f4, f5⟩ := hf it (by simp)
    have hl := rv.length
    obtain ⟨oi, hoi, hci, _⟩ := id hit
    have ne1 : a ≠ it := tuple_ne p hoi (by rw [hci]; decide)
    have D : Draws X.prog X.w X.A.in1 it [it, a] 0 (fun _ _ => True) (fun _ h => h.IsTupleIter it a i ∧ h.IsTuple a its.toArray) := by
      refine ⟨fun j h st => ?_, fun j h h' st hk => ?_, fun j s' Q E' hj st hQ => absurd hj (Nat.not_lt_zero j), fun s' Q E' st hE => ?_⟩
      · obtain ⟨o, ho, _⟩ := st.1
        exact ⟨o, ho⟩
      · exact ⟨st.1.at fun o e => hk it (by simp) o e, st.2.at fun o e => hk a (by simp) o e⟩
      · exact wpAny_nextOf_tuple_end (I.ok.hd hc) st.1 st.2 (by simp; omega) hE
    exact wpAny_pyNext_enum_endD D he ⟨hit, p⟩ fun h' eb => ⟨rfl, I.turned (t' := s.toks) (fun b o hb q => eb b o hb q) f0 f1 f3 f4 f5⟩
  self := fun A i s Q E st h => by
    obtain ⟨⟨_, he⟩, _⟩ := st
    exact wpAny_pyIter_enum he h
def iEnumT (K : PySem.W.Frag) (ta : TA) : TI := fun σ H R => ta σ H fun vs H1 => ∃ a xs, vs = [.ref a] ∧ SqT K H1 a xs ∧ R (IteT K a) H1
theorem pi_enumTK {X : Cx} {K : PySem.W.Frag} {e : Expr} {ta : TA} {p pos tpos : Pos} {elts : List Expr} {kk : Nat} (hK : X.K = K) (hg : Gl X "enumerate") (hm : X.mg "enumerate" = none) (ha : PA X [e] ta) (hs : starEach [e] X.env = [(false, eval e X.env)] := by rfl) :
    PI X (.Tuple elts kk tpos) (.Call (.Name "enumerate" p) [e] [] pos) (iEnumT K ta) := by
  subst hK
  refine ⟨fun pins s σ H R I h => ?_⟩
  refine Call_ (ld_blt I hg hm boot_enumerate (PyProof.Rows.callWith_type1 (thn (ha.run pos pins s σ H _ I h) fun us s1 ⟨vs, H1, I1, r1, q1⟩ => ?_) hs rfl))
  obtain ⟨a, xs, ex, hq, q⟩ := q1
  subst ex
  cases r1 with
  | cons r rr =>
    cases rr
    cases r
    obtain ⟨its, rv, p', hz⟩ := I1.tuple hq
    refine call_enumT (show s1.heap.IsTuple a its.toArray from p') fun h' he hit hk => wpAny_pyIter_enum he ?_
    have I2 : Inv X pins σ H1 { s1 with heap := h' } := I1.kept (t' := s1.toks) hk
    refine ⟨s1.heap.objs.size + 1, [s1.heap.objs.size + 1, s1.heap.objs.size], _, _, H1, rfl, I2, turn_enumT a (s1.heap.objs.size + 1) s1.heap.objs.size, ⟨⟨.none, he⟩, hit, Nat.succ_ne_self _⟩, fun b hb => ?_, q⟩
    have hle : s1.heap.objs.size ≤ b := by
      have e' : b = s1.heap.objs.size + 1 ∨ b = s1.heap.objs.size := by simpa using hb
      rcases e' with z | z
      · rw [z]; exact Nat.le_add_right _ _
      · rw [z]; exact Nat.le_refl _
    exact I1.fpOk hle (I1.hok.fresh hle)
theorem walk_enumT {K : PySem.W.Frag} {a : Addr} {xs : List V} : Walk (IteT K a) xs.length (fun H => SqT K H a xs) (YPair (fun i => some (.int (i : Nat))) (fun i => xs[i]?)) := by
  refine ⟨fun i _ hi q => ⟨xs, xs[i], q, by simp [hi]⟩, fun _ q => ⟨xs, q, Nat.le_refl _⟩, fun i H v H' _ q y => ?_⟩
  obtain ⟨T, x, h1, h2, h3, h4⟩ := y
  exact ⟨T, .int (i : Nat), x, h1, h2, h3, rfl, h4 xs q⟩
end Ns

/-! Own layer Y: growing out of a point by rounds, in plain Lean. -/
namespace Ns
open PySem PySem.Spec PyProof.Rows L2
/-- a point, from where it was reached, and how far it is -/
abbrev Ent := Nat × Option Nat × Nat
structure BfsW (n : Nat) (T : Tm) (sh : Nat → Bool) (start : Nat) (S : List Ent) : Prop where
  nd : (S.map (·.1)).Nodup
  st : (start, none, 0) ∈ S
  lt : ∀ e ∈ S, e.1 < n
  par : ∀ e ∈ S, e = (start, none, 0) ∨ ∃ x px d, e = (e.1, some x, d + 1) ∧ T x e.1 = true ∧ sh e.1 = false ∧ (x, px, d) ∈ S
structure Bfs (n : Nat) (T : Tm) (sh : Nat → Bool) (start : Nat) (S : List Ent) : Prop extends BfsW n T sh start S where
  closed : ∀ x px d y, (x, px, d) ∈ S → T x y = true → y < n → sh y = false → ∃ py e, (y, py, e) ∈ S ∧ e ≤ d + 1
/-- within a round: the points of `now` at depth d, of which those in A are done; what was found for the next round -/
structure Mid (n : Nat) (T : Tm) (sh : Nat → Bool) (start d : Nat) (now later : List Nat) (A : List Nat) (S : List Ent) : Prop extends BfsW n T sh start S where
  deep : ∀ e ∈ S, e.2.2 ≤ d + 1
  nowS : ∀ x, x ∈ now ↔ ∃ px, (x, px, d) ∈ S
  latS : ∀ x, x ∈ later ↔ ∃ px, (x, px, d + 1) ∈ S
  cls : ∀ x px dx y, (x, px, dx) ∈ S → (dx < d ∨ x ∈ A) → dx ≤ d → T x y = true → y < n → sh y = false → ∃ py e, (y, py, e) ∈ S ∧ e ≤ dx + 1
theorem ent_uniq {S : List Ent} (h : (S.map (·.1)).Nodup) {a b : Ent} (ha : a ∈ S) (hb : b ∈ S) (e : a.1 = b.1) : a = b := by
  obtain ⟨i, hi, ei⟩ := List.mem_iff_getElem.mp ha
  obtain ⟨j, hj, ej⟩ := List.mem_iff_getElem.mp hb
  have h1 : (S.map (·.1))[i]? = some a.1 := by rw [List.getElem?_map, List.getElem?_eq_getElem hi, ei]; rfl
  have h2 : (S.map (·.1))[j]? = some b.1 := by rw [List.getElem?_map, List.getElem?_eq_getElem hj, ej]; rfl
  have h3 := (List.getElem?_inj (by simpa using hi) h).mp (h1.trans (by rw [h2, e]))
  subst h3
  rw [← ei, ← ej]
theorem bfs_len {n : Nat} {T : Tm} {sh : Nat → Bool} {start : Nat} {S : List Ent} (B : BfsW n T sh start S) : S.length ≤ n := by
  have h := sub_len (S.map (·.1)) (List.range n) B.nd fun x hx => by
    obtain ⟨e, he, rfl⟩ := List.mem_map.mp hx
    exact List.mem_range.mpr (B.lt e he)
  rw [List.length_map, List.length_range] at h
  exact h
theorem mid_start {n : Nat} {T : Tm} {sh : Nat → Bool} {start : Nat} (h : start < n) : Mid n T sh start 0 [start] [] [] [(start, none, 0)] := by
  refine ⟨⟨by simp, by simp, fun e he => ?_, fun e he => .inl (List.mem_singleton.mp he)⟩, fun e he => ?_, fun x => ?_, fun x => ?_, fun x px dx y hx hd _ _ _ _ => ?_⟩
  · rw [List.mem_singleton.mp he]; exact h
  · rw [List.mem_singleton.mp he]; exact Nat.zero_le _
  · constructor
    · intro hx
      rw [List.mem_singleton.mp hx]
      exact ⟨none, List.mem_singleton.mpr rfl⟩
    · rintro ⟨px, hx⟩
      have e := List.mem_singleton.mp hx
      exact List.mem_singleton.mpr (congrArg (·.1) e)
  · constructor
    · intro hx; cases hx
    · rintro ⟨px, hx⟩
      have e := List.mem_singleton.mp hx
      have := congrArg (fun z : Ent => z.2.2) e
      simp at this
  · rcases hd with hd | hd
    · omega
    · cases hd
/-- a new point -/
theorem mid_add {n : Nat} {T : Tm} {sh : Nat → Bool} {start d : Nat} {now later A : List Nat} {S : List Ent} (M : Mid n T sh start d now later A S) {x y : Nat} (hx : x ∈ now) (hy : y < n) (t : T x y = true) (hs : sh y = false) (hn : y ∉ S.map (·.1)) :
    Mid n T sh start d now (later ++ [y]) A (S ++ [(y, some x, d + 1)]) := by
  obtain ⟨px, hpx⟩ := (M.nowS x).mp hx
  refine ⟨⟨?_, List.mem_append.mpr (.inl M.st), fun e he => ?_, fun e he => ?_⟩, fun e he => ?_, fun z => ?_, fun z => ?_, fun z pz dz u hz hd hdz tu hu su => ?_⟩
  · rw [List.map_append]
    refine List.nodup_append.mpr ⟨M.nd, by simp, fun a ha b hb e => hn ?_⟩
    rw [List.map_singleton, List.mem_singleton] at hb
    have hb : b = y := hb
    rw [← hb, ← e]
    exact ha
  · rcases List.mem_append.mp he with he | he
    · exact M.lt e he
    · rw [List.mem_singleton.mp he]; exact hy
  · rcases List.mem_append.mp he with he | he
    · rcases M.par e he with h | ⟨a, pa, da, h1, h2, h3, h4⟩
      · exact .inl h
      · exact .inr ⟨a, pa, da, h1, h2, h3, List.mem_append.mpr (.inl h4)⟩
    · have e2 := List.mem_singleton.mp he
      subst e2
      exact .inr ⟨x, px, d, rfl, t, hs, List.mem_append.mpr (.inl hpx)⟩
  · rcases List.mem_append.mp he with he | he
    · exact M.deep e he
    · rw [List.mem_singleton.mp he]; exact Nat.le_refl _
  · rw [M.nowS z]
    constructor
    · rintro ⟨pz, hz⟩
      exact ⟨pz, List.mem_append.mpr (.inl hz)⟩
    · rintro ⟨pz, hz⟩
      rcases List.mem_append.mp hz with hz | hz
      · exact ⟨pz, hz⟩
      · have e := congrArg (fun z : Ent => z.2.2) (List.mem_singleton.mp hz)
        dsimp only at e
        omega
  · rw [List.mem_append, M.latS z, List.mem_singleton]
    constructor
    · rintro (⟨pz, hz⟩ | rfl)
      · exact ⟨pz, List.mem_append.mpr (.inl hz)⟩
      · exact ⟨some x, List.mem_append.mpr (.inr (List.mem_singleton.mpr rfl))⟩
    · rintro ⟨pz, hz⟩
      rcases List.mem_append.mp hz with hz | hz
      · exact .inl ⟨pz, hz⟩
      · exact .inr (congrArg (·.1) (List.mem_singleton.mp hz))
  · rcases List.mem_append.mp hz with hz | hz
    · obtain ⟨py, e, he, hle⟩ := M.cls z pz dz u hz hd hdz tu hu su
      exact ⟨py, e, List.mem_append.mpr (.inl he), hle⟩
    · have e := congrArg (fun z : Ent => z.2.2) (List.mem_singleton.mp hz)
      dsimp only at e
      omega
/-- a point is done -/
theorem mid_done {n : Nat} {T : Tm} {sh : Nat → Bool} {start d : Nat} {now later A : List Nat} {S : List Ent} (M : Mid n T sh start d now later A S) {x : Nat} (h : ∀ y ∈ nbL n T x, sh y = true ∨ y ∈ S.map (·.1)) : Mid n T sh start d now later (A ++ [x]) S := by
  refine ⟨M.toBfsW, M.deep, M.nowS, M.latS, fun z pz dz u hz hd hdz tu hu su => ?_⟩
  by_cases e : z = x ∧ dz = d
  · obtain ⟨rfl, rfl⟩ := e
    rcases h u (mem_nbL.mpr ⟨hu, tu⟩) with h1 | h1
    · rw [su] at h1; cases h1
    · obtain ⟨e, he, rfl⟩ := List.mem_map.mp h1
      obtain ⟨e1, e2, e3⟩ := e
      exact ⟨e2, e3, he, M.deep _ he⟩
  · refine M.cls z pz dz u hz ?_ hdz tu hu su
    rcases hd with hd | hd
    · exact .inl hd
    · rcases List.mem_append.mp hd with hd | hd
      · exact .inr hd
      · have : z = x := List.mem_singleton.mp hd
        exact .inl (by
          have : dz ≠ d := fun h => e ⟨this, h⟩
          omega)
/-- the next round -/
theorem mid_next {n : Nat} {T : Tm} {sh : Nat → Bool} {start d : Nat} {now later : List Nat} {S : List Ent} (M : Mid n T sh start d now later now S) : Mid n T sh start (d + 1) later [] [] S := by
  refine ⟨M.toBfsW, fun e he => Nat.le_succ_of_le (M.deep e he), M.latS, fun x => ?_, fun z pz dz u hz hd hdz tu hu su => ?_⟩
  · constructor
    · intro h; cases h
    · rintro ⟨px, hx⟩
      have := M.deep _ hx
      dsimp only at this
      omega
  · have hd : dz < d + 1 := by
      rcases hd with hd | hd
      · exact hd
      · cases hd
    refine M.cls z pz dz u hz ?_ (by omega) tu hu su
    by_cases e : dz < d
    · exact .inl e
    · have e2 : dz = d := by omega
      subst e2
      exact .inr ((M.nowS z).mpr ⟨pz, hz⟩)
/-- nothing was found -/
theorem mid_end {n : Nat} {T : Tm} {sh : Nat → Bool} {start d : Nat} {later A : List Nat} {S : List Ent} (M : Mid n T sh start d [] later A S) (h : later = []) : Bfs n T sh start S := by
  refine ⟨M.toBfsW, fun x px dx y hx t hy hs => ?_⟩
  have h1 := M.deep _ hx
  dsimp only at h1
  have h2 : dx ≠ d := fun e => by
    subst e
    have := (M.nowS x).mpr ⟨px, hx⟩
    cases this
  have h3 : dx ≠ d + 1 := fun e => by
    subst e
    have := (M.latS x).mpr ⟨px, hx⟩
    rw [h] at this
    cases this
  exact M.cls x px dx y hx (.inl (by omega)) (by omega) t hy hs
/-! ### entries in a dict -/
def entK (g : Ent → V) (S : List Ent) : List (Key × V) := S.map fun e => (.inl (e.1 : Int), g e)
theorem ent_some (g : Ent → V) (y : Nat) : ∀ S : List Ent, (valV (entK g S) (.inl (y : Int))).isSome = decide (y ∈ S.map (·.1))
  | [] => rfl
  | e :: S => by
    have ih := ent_some g y S
    unfold entK at *
    rw [List.map_cons]
    by_cases h : e.1 = y
    · rw [valV_pos (by rw [h])]
      exact (decide_eq_true (by rw [List.map_cons, h]; exact List.mem_cons_self ..)).symm
    · rw [valV_neg (fun z => h (by have := Sum.inl.inj z; omega)), ih]
      refine decide_eq_decide.mpr ?_
      rw [List.map_cons, List.mem_cons]
      exact ⟨.inr, fun z => z.resolve_left fun z => h z.symm⟩
theorem ent_val (g : Ent → V) : ∀ {S : List Ent}, (S.map (·.1)).Nodup → ∀ e ∈ S, valV (entK g S) (.inl (e.1 : Int)) = some (g e)
  | [], _, e, h => by cases h
  | a :: S, nd, e, h => by
    have nd := List.nodup_cons.mp nd
    unfold entK
    rw [List.map_cons]
    rcases List.mem_cons.mp h with rfl | h
    · exact valV_pos rfl
    · have hne : a.1 ≠ e.1 := fun z => nd.1 (List.mem_map.mpr ⟨e, h, z.symm⟩)
      rw [valV_neg (fun z => hne (by have := Sum.inl.inj z; omega))]
      exact ent_val g nd.2 e h
theorem ent_put (g : Ent → V) {S : List Ent} {e : Ent} (h : e.1 ∉ S.map (·.1)) : putK (entK g S) (.inl (e.1 : Int)) (g e) = entK g (S ++ [e]) := by
  unfold putK
  have h1 : ((entK g S).any fun kv => decide (kv.1 = (.inl (e.1 : Int) : Key))) = false := by
    rw [List.any_eq_false]
    intro kv hkv
    obtain ⟨a, ha, rfl⟩ := List.mem_map.mp hkv
    simp only [decide_eq_true_eq]
    intro z
    exact h (List.mem_map.mpr ⟨a, ha, by have := Sum.inl.inj z; omega⟩)
  rw [if_neg (by rw [h1]; exact Bool.false_ne_true)]
  unfold entK
  rw [List.map_append]
  rfl
def parV : Option Nat → V
  | none => .non
  | some x => pI x
def befV (e : Ent) : V := parV e.2.1
def manV (e : Ent) : V := .int ((e.2.2 : Int) + 1)
theorem tru_list {K : PySem.W.Frag} {H : Hp} {p : Addr} {xs : List V} (h : H p = some (.lst xs)) : TruV K (.ref p) H (!xs.isEmpty) := .inl ⟨_, SqL.of h, rfl⟩
end Ns

/-! Own layer K: ways back from a reached point; how far points are, in plain Lean. -/
namespace Ns
open PySem PySem.Spec PyProof.Rows L2
/-- a way back to the start, point by point -/
def TrR (S : List Ent) (R : List Nat) : Prop := R ≠ [] ∧ ∀ k y, R[k]? = some y → (y, R[k + 1]?, R.length - 1 - k) ∈ S
theorem tr_cons {S : List Ent} {y x d : Nat} {r : List Nat} (h : TrR S (x :: r)) (hl : r.length = d) (hy : (y, some x, d + 1) ∈ S) : TrR S (y :: x :: r) := by
  refine ⟨List.cons_ne_nil _ _, fun k z hz => ?_⟩
  match k with
  | 0 =>
    have e : y = z := Option.some.inj hz
    subst e
    show (y, some x, (x :: r).length + 1 - 1 - 0) ∈ S
    rw [List.length_cons, hl]
    exact hy
  | k + 1 =>
    have h2 := h.2 k z hz
    have e : (y :: x :: r).length - 1 - (k + 1) = (x :: r).length - 1 - k := by
      simp only [List.length_cons]
      omega
    rw [e]
    exact h2
theorem tr_ex {n : Nat} {T : Tm} {sh : Nat → Bool} {start : Nat} {S : List Ent} (B : BfsW n T sh start S) : ∀ (d : Nat) (y : Nat) (p : Option Nat), (y, p, d) ∈ S → ∃ r, TrR S (y :: r) ∧ r.length = d
  | d, y, p, h => by
    rcases B.par _ h with e | ⟨x, px, d', e, t, s, hx⟩
    · cases e
      refine ⟨[], ⟨List.cons_ne_nil _ _, fun k z hz => ?_⟩, rfl⟩
      match k with
      | 0 =>
        have e : start = z := Option.some.inj hz
        subst e
        exact h
      | k + 1 => cases hz
    · have ed : d = d' + 1 := congrArg (fun z : Ent => z.2.2) e
      have ep : p = some x := congrArg (fun z : Ent => z.2.1) e
      subst ed
      subst ep
      obtain ⟨r, hr, hl⟩ := tr_ex B d' x px hx
      exact ⟨x :: r, tr_cons hr hl h, by rw [List.length_cons, hl]⟩
  termination_by d => d
theorem tr_nodup {S : List Ent} (nd : (S.map (·.1)).Nodup) {R : List Nat} (h : TrR S R) : R.Nodup := by
  rw [List.Nodup, List.pairwise_iff_getElem]
  intro i j hi hj hij e2
  have h1 := h.2 i R[i] (by simp)
  have h2 := h.2 j R[j] (by simp)
  have := ent_uniq nd h1 h2 e2
  have := congrArg (fun z : Ent => z.2.2) this
  dsimp only at this
  omega
theorem tr_tie {n : Nat} {T : Tm} {sh : Nat → Bool} {start : Nat} {S : List Ent} (B : BfsW n T sh start S) {R : List Nat} (h : TrR S R) {k x y : Nat} (hy : R[k]? = some y) (hx : R[k + 1]? = some x) : T x y = true ∧ sh y = false := by
  have h1 := h.2 k y hy
  rw [hx] at h1
  rcases B.par _ h1 with e | ⟨x', px, d, e, t, s, _⟩
  · cases e
  · have ex : x = x' := Option.some.inj (congrArg (fun z : Ent => z.2.1) e)
    subst ex
    exact ⟨t, s⟩
theorem tr_last {n : Nat} {T : Tm} {sh : Nat → Bool} {start : Nat} {S : List Ent} (B : BfsW n T sh start S) {R : List Nat} (h : TrR S R) : R.getLast? = some start := by
  have hne := h.1
  have hl : R.length - 1 < R.length := by
    have := List.length_pos_iff.mpr hne
    omega
  have h1 := h.2 (R.length - 1) R[R.length - 1] (by simp)
  have e0 : R[R.length - 1 + 1]? = none := List.getElem?_eq_none_iff.mpr (by omega)
  rw [e0] at h1
  rcases B.par _ h1 with e | ⟨x', px, d, e, _⟩
  · rw [List.getLast?_eq_getElem?, List.getElem?_eq_getElem hl]
    exact congrArg some (congrArg (·.1) e)
  · have := congrArg (fun z : Ent => z.2.1) e
    cases this
/-- how far: along ties the rounds differ by one at most -/
theorem far_step {n : Nat} {T : Tm} {sh : Nat → Bool} {start : Nat} {S : List Ent} (B : Bfs n T sh start S) {x y : Nat} {px : Option Nat} {dx : Nat} (hx : (x, px, dx) ∈ S) (t : T x y = true) (hy : y < n) (hs : sh y = false) : ∃ py dy, (y, py, dy) ∈ S ∧ dy ≤ dx + 1 := B.closed x px dx y hx t hy hs
/-- a way: tied point by point, none shut but the first -/
structure Way (n : Nat) (T : Tm) (sh : Nat → Bool) (P : List Nat) : Prop where
  ne : P ≠ []
  lt : ∀ x ∈ P, x < n
  tie : ∀ k x y, P[k]? = some x → P[k + 1]? = some y → T x y = true ∧ sh y = false
/-- no way is shorter -/
theorem far_way {n : Nat} {T : Tm} {sh : Nat → Bool} {start : Nat} {S : List Ent} (B : Bfs n T sh start S) {P : List Nat} (W : Way n T sh P) (h0 : P[0]? = some start) : ∀ k y, P[k]? = some y → ∃ py d, (y, py, d) ∈ S ∧ d ≤ k
  | 0, y, h => by
    have e : start = y := Option.some.inj (h0.symm.trans h)
    subst e
    exact ⟨none, 0, B.st, Nat.le_refl _⟩
  | k + 1, y, h => by
    have hk : k + 1 < P.length := (List.getElem?_eq_some_iff.mp h).1
    have hx : P[k]? = some P[k] := by simp
    obtain ⟨px, dx, h1, h2⟩ := far_way B W h0 k P[k] hx
    obtain ⟨t, s⟩ := W.tie k P[k] y hx h
    obtain ⟨py, d, h3, h4⟩ := B.closed _ _ _ y h1 t (W.lt y (List.mem_of_getElem? h)) s
    exact ⟨py, d, h3, by omega⟩
/-- the way told -/
theorem tr_way {n : Nat} {T : Tm} {sh : Nat → Bool} {start : Nat} {S : List Ent} (B : BfsW n T sh start S) {R : List Nat} (h : TrR S R) : Way n T sh R.reverse ∧ R.reverse[0]? = some start := by
  have hl := tr_last B h
  refine ⟨⟨by simpa using h.1, fun x hx => ?_, fun k x y hx hy => ?_⟩, ?_⟩
  · have hx := List.mem_reverse.mp hx
    obtain ⟨k, hk, e⟩ := List.mem_iff_getElem.mp hx
    have := B.lt _ (h.2 k x (by rw [← e]; simp))
    exact this
  · have hk : k + 1 < R.length := by
      have := (List.getElem?_eq_some_iff.mp hy).1
      rwa [List.length_reverse] at this
    rw [List.getElem?_reverse (by omega)] at hx
    rw [List.getElem?_reverse hk] at hy
    have e : R.length - 1 - k = (R.length - 1 - (k + 1)) + 1 := by omega
    rw [e] at hx
    exact tr_tie B h hy hx
  · rw [List.getElem?_reverse (List.length_pos_iff.mpr h.1), Nat.sub_zero, ← List.getLast?_eq_getElem?]
    exact hl
/-- a point's round does not depend on who grows -/
theorem far_uniq {n : Nat} {T : Tm} {sh : Nat → Bool} {start : Nat} {S S' : List Ent} (B : Bfs n T sh start S) (B' : Bfs n T sh start S') {y : Nat} {p : Option Nat} {d : Nat} (h : (y, p, d) ∈ S) : ∃ p', (y, p', d) ∈ S' := by
  obtain ⟨r, hr, hl⟩ := tr_ex B.toBfsW d y p h
  obtain ⟨W, h0⟩ := tr_way B.toBfsW hr
  have hy : (y :: r).reverse[d]? = some y := by
    rw [List.getElem?_reverse (by rw [List.length_cons]; omega), List.length_cons]
    rw [show r.length + 1 - 1 - d = 0 by omega]
    rfl
  obtain ⟨p', d', h1, h2⟩ := far_way B' W h0 d y hy
  obtain ⟨r', hr', hl'⟩ := tr_ex B'.toBfsW d' y p' h1
  obtain ⟨W', h0'⟩ := tr_way B'.toBfsW hr'
  have hy' : (y :: r').reverse[d']? = some y := by
    rw [List.getElem?_reverse (by rw [List.length_cons]; omega), List.length_cons]
    rw [show r'.length + 1 - 1 - d' = 0 by omega]
    rfl
  obtain ⟨p2, d2, h3, h4⟩ := far_way B W' h0' d' y hy'
  have e := ent_uniq B.nd h h3 rfl
  have e2 : d = d2 := congrArg (fun z : Ent => z.2.2) e
  have e3 : d' = d := by omega
  subst e3
  exact ⟨p', h1⟩
theorem far_mem {n : Nat} {T : Tm} {sh : Nat → Bool} {start : Nat} {S S' : List Ent} (B : Bfs n T sh start S) (B' : Bfs n T sh start S') (y : Nat) : y ∈ S.map (·.1) ↔ y ∈ S'.map (·.1) := by
  have go : ∀ {A A' : List Ent}, Bfs n T sh start A → Bfs n T sh start A' → y ∈ A.map (·.1) → y ∈ A'.map (·.1) := fun {A A'} b b' h => by
    obtain ⟨e, he, rfl⟩ := List.mem_map.mp h
    obtain ⟨e1, e2, e3⟩ := e
    obtain ⟨p', h'⟩ := far_uniq b b' he
    exact List.mem_map.mpr ⟨_, h', rfl⟩
  exact ⟨go B B', go B' B⟩
theorem atI_end {α : Type} {xs : List α} {x : α} (h : xs.getLast? = some x) : atI xs (-1) = some x := by
  obtain ⟨l, rfl⟩ := List.getLast?_eq_some_iff.mp h
  have hl : (l ++ [x]).length = l.length + 1 := by simp
  have e : ixN (l ++ [x]).length (-1) = some l.length := by
    unfold ixN
    rw [if_neg (by omega), if_pos (by omega)]
    congr 1
    omega
  unfold atI
  rw [e]
  simp
theorem take_last {xs : List Nat} {k : Nat} (h : k < xs.length) : ((xs.take (k + 1)).map pI).getLast? = some (pI xs[k]) := by
  rw [List.take_add_one, List.getElem?_eq_getElem h, List.map_append]
  simp
end Ns

/-! Own layer: dicts whose keys are points; turns of any walk. -/
namespace Ns
open PySem PySem.Spec PyProof.Rows L2
def remL (l : List Nat) (y : Nat) : List Nat := l.filter fun z => !decide (z = y)
theorem remL_none {y : Nat} : ∀ {l : List Nat}, y ∉ l → remL l y = l := fun {l} h => by
  unfold remL
  rw [List.filter_eq_self]
  intro z hz
  rw [Bool.not_eq_true', decide_eq_false_iff_not]
  exact fun e => h (e ▸ hz)
/-- turns of any walk, in the heap alone -/
theorem turns_it {J : It} {n : Nat} {G : Hp → Prop} {Y : Nat → Hp → V → Hp → Prop} (w : Walk J n G Y) {B : V → Hp → (Hp → Prop) → Prop} {Qd : Hp → Prop} {H0 : Hp} (Pv : Nat → Hp → Prop) (h0 : Pv 0 H0) (hG : ∀ i H, i ≤ n → Pv i H → G H)
    (hs : ∀ i x H H', i < n → Pv i H → Y i H x H' → B x H' (Pv (i + 1))) (hd : ∀ H, Pv n H → Qd H) :
    ∃ W : Nat → Nat → Hp → Prop, (∃ m, W 0 m H0) ∧ ∀ i m H, W i m H →
      (J.stop i H ∧ Qd H) ∨ (J.go i H ∧ ∃ Nx : Hp → Prop, (∀ H', Nx H' → ∃ m', m' < m ∧ W (i + 1) m' H') ∧ ∀ x H', J.yld i H x H' → B x H' Nx) := by
  refine ⟨fun i m H => m = n - i ∧ i ≤ n ∧ Pv i H, ⟨n, by simp, Nat.zero_le _, h0⟩, ?_⟩
  rintro i m H ⟨rfl, hi, p⟩
  have q := hG i H hi p
  by_cases hlt : i < n
  · exact .inr ⟨w.goes i H hlt q, Pv (i + 1), fun H' p' => ⟨n - (i + 1), by omega, rfl, hlt, p'⟩, fun x H' y => hs i x H H' hlt p (w.yields i H x H' hlt q y)⟩
  · have e : i = n := by omega
    subst e
    exact .inl ⟨w.stops H q, hd H p⟩
theorem fm_filterW (p : Nat → Bool) : ∀ l : List Nat, l.filterMap (fun y => if p y = true then some y else none) = l.filter p
  | [] => rfl
  | a :: l => by
    rw [List.filterMap_cons, List.filter_cons, fm_filterW p l]
    by_cases h : p a = true
    · rw [if_pos h, if_pos h]
    · rw [if_neg h, if_neg h]
theorem remLW_mem {l : List Nat} {y z : Nat} : z ∈ remL l y ↔ z ∈ l ∧ z ≠ y := by
  unfold remL
  rw [List.mem_filter]
  simp
theorem remLW_len {l : List Nat} {y : Nat} (h : y ∈ l) : (remL l y).length < l.length := by
  unfold remL
  exact List.length_filter_lt_length_iff_exists.mpr ⟨y, h, by simp⟩
/-- points, each there -/
def ldK (L : List Nat) : List (Key × V) := L.map fun x : Nat => (.inl (x : Int), .bl true)
theorem ldK_len (L : List Nat) : (ldK L).length = L.length := by unfold ldK; rw [List.length_map]
theorem ldK_has (L : List Nat) (y : Nat) : (valV (ldK L) (.inl (y : Int))).isSome = decide (y ∈ L) := by
  rw [← valV_any]
  unfold ldK
  rw [Bool.eq_iff_iff, List.any_eq_true, decide_eq_true_eq]
  constructor
  · rintro ⟨kv, h1, h2⟩
    obtain ⟨x, hx, rfl⟩ := List.mem_map.mp h1
    have h2 : (Sum.inl (x : Int) : Key) = Sum.inl (y : Int) := of_decide_eq_true h2
    injection h2 with h2
    have e : x = y := by omega
    rw [← e]
    exact hx
  · exact fun h => ⟨_, List.mem_map.mpr ⟨y, h, rfl⟩, decide_eq_true rfl⟩
theorem ldK_put {L : List Nat} {x : Nat} (h : x ∉ L) : putK (ldK L) (.inl (x : Int)) (.bl true) = ldK (L ++ [x]) := by
  have hn : valV (ldK L) (.inl (x : Int)) = none := by
    have := ldK_has L x
    rw [decide_eq_false h] at this
    cases e : valV (ldK L) (.inl (x : Int)) with
    | none => rfl
    | some _ => rw [e] at this; cases this
  rw [putK_new _ hn]
  unfold ldK
  rw [List.map_append]
  rfl
theorem ldK_drop (L : List Nat) (x : Nat) : dropK (ldK L) (.inl (x : Int)) = ldK (remL L x) := by
  unfold dropK ldK remL
  rw [List.filter_map]
  congr 1
  refine List.filter_congr fun y _ => ?_
  show decide ((Sum.inl (y : Int) : Key) ≠ Sum.inl (x : Int)) = !decide (y = x)
  rw [Bool.eq_iff_iff, decide_eq_true_eq, Bool.not_eq_true', decide_eq_false_iff_not]
  exact ⟨fun h e => h (by rw [e]), fun h e => h (by injection e with e; omega)⟩
end Ns

/-! Own layer: drawn trees in the heap; whether the law lets them go. -/
namespace Ns
open PySem PySem.Spec PyProof.Rows L2
local macro_rules | `(tactic| walk_at "look") => `(tactic| first | assumption | exact upd_same | (refine (upd_ne (by first | assumption | exact Ne.symm (by assumption))).trans ?_; walk_at "look"))
local macro_rules | `(tactic| walk_at "cond") => `(tactic| first | assumption | omega | (dsimp only; omega) | exact ⟨by omega, by omega⟩ | decide | exact ⟨by decide, by decide, by decide⟩ | exact .inr ⟨by decide, by decide⟩ | exact .inl ⟨by decide, by decide⟩ | exact .inr ⟨by omega, by omega⟩ | exact .inl ⟨by omega, by omega⟩)
local macro_rules | `(tactic| walk_at "rd1") => `(tactic| first
  | refine ⟨_, rfl, ?_⟩
  | refine ⟨_, _, rfl, rfl, ?_⟩
  | refine ⟨rfl, ?_⟩
  | refine ⟨_, _, rfl, rfl, (by walk_at "cond"), ?_⟩
  | refine ⟨_, _, _, _, rfl, rfl, SqL.of (by walk_at "look"), rfl, ?_⟩
  | refine ⟨_, _, _, _, rfl, rfl, SqT.of (by walk_at "look"), rfl, ?_⟩
  | refine ⟨_, _, _, _, rfl, rfl, (by walk_at "look"), rfl, ?_⟩
  | refine .inl ⟨_, rfl, ?_⟩
  | refine ⟨.inl ⟨rfl, _, SqL.of (by walk_at "look")⟩, ?_⟩
  | refine ⟨_, _, rfl, ⟨by omega, by omega, by omega, by omega⟩, ?_⟩
  | refine ⟨_, rfl, (by omega), (by omega), ?_⟩
  | refine And.intro (by walk_at "cond") ?_)
local macro_rules | `(tactic| walk_at "rd") => `(tactic| repeat (walk_at "rd1"))

abbrev N_law_prime : List Str := ["box", "many", "ring_v"]
theorem sc_law_prime : FnScope N_law_prime ["box", "many"] (defScope s_law_prime) := ⟨rfl, rfl, rfl, by decide +kernel, rfl, by decide +kernel, by decide +kernel⟩
abbrev N_law_are_tied : List Str := ["what", "many", "i", "j", "near"]
theorem sc_law_are_tied : FnScope N_law_are_tied ["what", "many", "i", "j"] (defScope s_law_are_tied) := ⟨rfl, rfl, rfl, by decide +kernel, rfl, by decide +kernel, by decide +kernel⟩
abbrev N_law_goes : List Str := ["node", "arrows", "what", "one"]
theorem sc_law_goes : FnScope N_law_goes ["node", "arrows"] (defScope s_law_goes) := ⟨rfl, rfl, rfl, by decide +kernel, rfl, by decide +kernel, by decide +kernel⟩
mutual
def Dr.hgt : Dr → Nat
  | .leaf _ => 0
  | .node _ ks => hgtDr ks + 1
def hgtDr : List Dr → Nat
  | [] => 0
  | k :: r => max k.hgt (hgtDr r)
end
theorem hgtDr_le {h : Nat} : ∀ ks : List Dr, hgtDr ks ≤ h ↔ ∀ k ∈ ks, k.hgt ≤ h
  | [] => by simp [hgtDr]
  | k :: r => by rw [hgtDr, Nat.max_le, hgtDr_le r, List.forall_mem_cons]
def DSort.dat : DSort → PyData
  | .ap => .tuple [.str "apart"]
  | .tg => .tuple [.str "together"]
  | .pr r t => .tuple [.str "prime", .bool r, .bool t]
mutual
def Dr.dat : Dr → PyData
  | .leaf x => .int (x : Int)
  | .node s ks => .tuple [s.dat, .list (datDr ks)]
def datDr : List Dr → List PyData
  | [] => []
  | k :: r => k.dat :: datDr r
end
theorem datDr_map : ∀ ks : List Dr, datDr ks = ks.map Dr.dat
  | [] => by simp [datDr]
  | k :: r => by rw [datDr, datDr_map r]; rfl
mutual
theorem Dr.lay : ∀ d : Dr, d.dat.canLay0 = true ∧ d.dat.depth ≤ 2 * d.hgt + 4
  | .leaf x => ⟨by rw [Dr.dat]; rfl, by simp [Dr.dat, Dr.hgt, PyData.depth]⟩
  | .node s ks => by
    obtain ⟨h1, h2⟩ := lay_dr ks
    have hs : s.dat.canLay0 = true ∧ s.dat.depth ≤ 3 := by cases s <;> exact ⟨(by simp [DSort.dat, PyData.canLay0, PyData.canLayAll0]; decide +kernel), by simp [DSort.dat, PyData.depth, PyData.depthAll]⟩
    refine ⟨?_, ?_⟩
    · rw [Dr.dat]
      show (s.dat.canLay0 && (PyData.canLayAll0 (datDr ks) && true)) = true
      rw [hs.1, h1]
      rfl
    · rw [Dr.dat, Dr.hgt]
      simp only [PyData.depth, PyData.depthAll]
      omega
theorem lay_dr : ∀ ks : List Dr, PyData.canLayAll0 (datDr ks) = true ∧ PyData.depthAll (datDr ks) ≤ 2 * hgtDr ks + 4
  | [] => ⟨by rw [datDr]; rfl, by simp [datDr, PyData.depthAll]⟩
  | k :: r => by
    obtain ⟨h1, h2⟩ := Dr.lay k
    obtain ⟨h3, h4⟩ := lay_dr r
    refine ⟨?_, ?_⟩
    · rw [datDr]
      show (k.dat.canLay0 && PyData.canLayAll0 (datDr r)) = true
      rw [h1, h3]
      rfl
    · rw [datDr, hgtDr]
      simp only [PyData.depthAll]
      omega
end
theorem sh_drs (ks : List Dr) (h : hgtDr ks ≤ 20) : SeqAt.shaped (.list (ks.map Dr.dat)) = true := by
  obtain ⟨h1, h2⟩ := lay_dr ks
  rw [datDr_map] at h1 h2
  have d : (PyData.list (ks.map Dr.dat)).depth ≤ 64 := by
    simp only [PyData.depth]
    omega
  show (PyData.canLayAll0 (ks.map Dr.dat) && decide _) = true
  rw [h1, decide_eq_true d]
  rfl
inductive WhatV (N : Addr → Prop) (H : Hp) : V → DSort → Prop
  | ap {w : Addr} : N w → H w = some (.tup [.str "apart"]) → WhatV N H (.ref w) .ap
  | tg {w : Addr} : N w → H w = some (.tup [.str "together"]) → WhatV N H (.ref w) .tg
  | pr {w : Addr} {r t : Bool} : N w → H w = some (.tup [.str "prime", .bl r, .bl t]) → WhatV N H (.ref w) (.pr r t)
mutual
/-- a drawn tree, its objects at places that N tells -/
inductive DrV (N : Addr → Prop) (H : Hp) : V → Dr → Prop
  | leaf (x : Nat) : DrV N H (pI x) (.leaf x)
  | node {t l : Addr} {wv : V} {us : List V} {s : DSort} {ks : List Dr} : N t → H t = some (.tup [wv, .ref l]) → WhatV N H wv s → N l → H l = some (.lst us) → us.length ≤ 1000 → DrVs N H us ks → DrV N H (.ref t) (.node s ks)
inductive DrVs (N : Addr → Prop) (H : Hp) : List V → List Dr → Prop
  | nil : DrVs N H [] []
  | cons {v : V} {d : Dr} {us : List V} {ks : List Dr} : DrV N H v d → DrVs N H us ks → DrVs N H (v :: us) (d :: ks)
end
/-- what stands at places of N stays, but for dicts -/
def KeepN (N : Addr → Prop) (H H' : Hp) : Prop := ∀ a u, N a → H a = some u → (∀ kv, u ≠ .dT kv) → H' a = some u
theorem KeepN.of {N : Addr → Prop} {H H' : Hp} (s : Same H H') : KeepN N H H' := fun a u _ h _ => s a u h
theorem WhatV.keep {N N' : Addr → Prop} {H H' : Hp} (hn : ∀ a, N a → N' a) (k : KeepN N H H') {v : V} {s : DSort} (h : WhatV N H v s) : WhatV N' H' v s := by
  cases h with
  | ap n h => exact .ap (hn _ n) (k _ _ n h fun _ z => nomatch z)
  | tg n h => exact .tg (hn _ n) (k _ _ n h fun _ z => nomatch z)
  | pr n h => exact .pr (hn _ n) (k _ _ n h fun _ z => nomatch z)
mutual
theorem DrV.keep {N N' : Addr → Prop} {H H' : Hp} (hn : ∀ a, N a → N' a) (k : KeepN N H H') {v : V} {d : Dr} : DrV N H v d → DrV N' H' v d
  | .leaf x => .leaf x
  | .node n1 h1 w n2 h2 hl ds => .node (hn _ n1) (k _ _ n1 h1 fun _ z => nomatch z) (w.keep hn k) (hn _ n2) (k _ _ n2 h2 fun _ z => nomatch z) hl (DrVs.keep hn k ds)
theorem DrVs.keep {N N' : Addr → Prop} {H H' : Hp} (hn : ∀ a, N a → N' a) (k : KeepN N H H') {us : List V} {ds : List Dr} : DrVs N H us ds → DrVs N' H' us ds
  | .nil => .nil
  | .cons a t => .cons (DrV.keep hn k a) (DrVs.keep hn k t)
end
theorem DrVs.at_ {N : Addr → Prop} {H : Hp} : ∀ {us : List V} {ds : List Dr} {i : Nat} {v : V}, DrVs N H us ds → us[i]? = some v → ∃ d, ds[i]? = some d ∧ DrV N H v d
  | _, _, _, _, .nil, h => by cases h
  | _, _, 0, _, .cons a t, h => by cases h; exact ⟨_, rfl, a⟩
  | _, _, i + 1, _, .cons a t, h => by
    obtain ⟨d, h1, h2⟩ := DrVs.at_ t h
    exact ⟨d, h1, h2⟩
theorem DrVs.paired {N : Addr → Prop} {H : Hp} : ∀ {us : List V} {ds : List Dr}, DrVs N H us ds → Paired (DrV N H) us ds
  | _, _, .nil => .nil
  | _, _, .cons a t => .cons a t.paired
theorem DrVs.len {N : Addr → Prop} {H : Hp} : ∀ {us : List V} {ds : List Dr}, DrVs N H us ds → us.length = ds.length
  | _, _, .nil => rfl
  | _, _, .cons a t => by rw [List.length_cons, List.length_cons, DrVs.len t]
theorem DrVs.snoc {N : Addr → Prop} {H : Hp} {v : V} {d : Dr} : ∀ {us : List V} {ds : List Dr}, DrVs N H us ds → DrV N H v d → DrVs N H (us ++ [v]) (ds ++ [d])
  | _, _, .nil, h => .cons h .nil
  | _, _, .cons a t, h => .cons a (DrVs.snoc t h)
theorem WhatV.dp {K : PySem.W.Frag} {N : Addr → Prop} {H : Hp} {v : V} {s : DSort} (h : WhatV N H v s) : Dp K H v s.dat := by
  cases h with
  | ap n h => exact .tup (SqT.of h) (.cons (.str _) .nil)
  | tg n h => exact .tup (SqT.of h) (.cons (.str _) .nil)
  | pr n h => exact .tup (SqT.of h) (.cons (.str _) (.cons (.bl _) (.cons (.bl _) .nil)))
mutual
theorem DrV.dp {K : PySem.W.Frag} {N : Addr → Prop} {H : Hp} {v : V} {d : Dr} : DrV N H v d → Dp K H v d.dat
  | .leaf x => by rw [Dr.dat]; exact .int _
  | .node n1 h1 w n2 h2 hl ds => by rw [Dr.dat]; exact .tup (SqT.of h1) (.cons w.dp (.cons (.lst (SqL.of h2) (DrVs.dps ds)) .nil))
theorem DrVs.dps {K : PySem.W.Frag} {N : Addr → Prop} {H : Hp} {us : List V} {ds : List Dr} : DrVs N H us ds → DpAll K H us (datDr ds)
  | .nil => by rw [datDr]; exact .nil
  | .cons a t => by rw [datDr]; exact .cons (DrV.dp a) (DrVs.dps t)
end
section
variable {P : Program} {w : World} {K : PySem.W.Frag} {mg : Str → Option Value} {base : Heap}
def sp_prime : Sp := fun vs H Q _ => ∃ (b l : Addr) (many : Nat), vs = [.ref b, pI many] ∧ Box H b l ∧ ∀ (t : Addr) (ring turned : Bool) (H' : Hp), (ring = true → 5 ≤ many) → H t = none → H' t = some (.tup [.str "prime", .bl ring, .bl turned]) → Kp b l H H' → Q (.ref t) H'
theorem cal_prime (A : At K mg "_law_prime" s_law_prime) (B : Bi mg) (c_law_take : Cal P w K mg base 1 "_law_take" sp_take) : Cal P w K mg base 2 "_law_prime" sp_prime := by
  have nd := sc_law_prime.nd
  refine A.cal sc_law_prime (fun _ _ _ _ _ _ us hl => match us, hl with | [_, _], _ => rfl) ?_ fun f cdv A' outer s H vs Q E hr h => ⟨_, (pss_cons (ps_set (i := 2) nd rfl (.inl rfl) (pe_and (pe_cmpR op_gt (pv 1) pe_int (nomark _)) (pe_one (pe_cmpR op_eq (pe_cal c_law_take hr (by first | decide | omega) (by rfl) passE (pa_cons (pv 0) (pa_cons pe_int pa_nil))) pe_int (nomark _)))))
  (pss_one (ps_ret (pe_tup (pa_cons pe_str (pa_cons (pv 2) (pa_cons (pe_cmpR op_eq (pe_cal c_law_take hr (by first | decide | omega) (by rfl) passE (pa_cons (pv 0) (pa_cons pe_int pa_nil))) pe_int (nomark _)) pa_nil))))))), ?_⟩
  · rintro vs H Q E ⟨b, l, many, rfl, _⟩
    rfl
  · obtain ⟨b, l, many, rfl, hb, q⟩ := h
    refine ⟨_, rfl, _, _, rfl, rfl, _, rfl, ifD (fun c => ?_) (fun c => ?_)⟩
    · refine ⟨_, rfl, b, l, 2, rfl, hb, by decide, by decide, fun s1 H1 s10 s11 k1 => ⟨rfl, _, rfl, _, rfl, b, l, 2, rfl, k1.box, by decide, by decide, fun s2 H2 s20 s21 k2 => ⟨rfl, by show 3 ≤ sizeLine; decide, fun t ht => ?_⟩⟩⟩
      exact q t _ _ _ (fun _ => by omega) ((k1.trans k2).free hb ht) upd_same ((k1.trans k2).then (same_laid ht))
    · refine ⟨_, rfl, _, rfl, b, l, 2, rfl, hb, by decide, by decide, fun s2 H2 s20 s21 k2 => ⟨rfl, by show 3 ≤ sizeLine; decide, fun t ht => ?_⟩⟩
      exact q t false _ _ (fun e => nomatch e) (k2.free hb ht) upd_same (k2.then (same_laid ht))
def sp_are_tied : Sp := fun vs H Q _ => ∃ (N : Addr → Prop) (wv : V) (s : DSort) (many i j : Nat), vs = [wv, pI many, pI i, pI j] ∧ WhatV N H wv s ∧ i < j ∧ j < many ∧ Q (.bl (s.R many i j)) H
theorem cal_are_tied (A : At K mg "_law_are_tied" s_law_are_tied) (B : Bi mg) : Cal P w K mg base 1 "_law_are_tied" sp_are_tied := by
  have nd := sc_law_are_tied.nd
  refine A.cal sc_law_are_tied (fun _ _ _ _ _ _ us hl => match us, hl with | [_, _, _, _], _ => rfl) ?_ fun f cdv A' outer s H vs Q E hr h => ⟨_, (pss_cons (ps_if (pt_cmpR op_ne (pe_ix (ix_tupK (K := K) rfl) (pv 0) pe_int (fun _ _ => rfl)) pe_str (nomark _)) (pss_one (ps_ret (pe_cmpR op_eq (pe_ix (ix_tupK (K := K) rfl) (pv 0) pe_int (fun _ _ => rfl)) pe_str (nomark _)))) pss_nil)
  (pss_cons (ps_set (i := 4) nd rfl (.inl rfl) (pe_or (pe_cmpR op_eq (pv 3) (pe_op op_add (pv 2) pe_int) (nomark _)) (pe_one (pe_and (pe_ix (ix_tupK (K := K) rfl) (pv 0) pe_int (fun _ _ => rfl)) (pe_and (pe_cmpR op_eq (pv 2) pe_int (nomark _)) (pe_one (pe_cmpR op_eq (pv 3) (pe_op op_sub (pv 1) pe_int) (nomark _))))))))
  (pss_one (ps_ret (pe_cmpR op_ne (pv 4) (pe_ix (ix_tupK (K := K) rfl) (pv 0) pe_int (fun _ _ => rfl)) (nomark _)))))), ?_⟩
  · rintro vs H Q E ⟨N, wv, s, many, i, j, rfl, _⟩
    rfl
  · obtain ⟨N, wv, so, many, i, j, rfl, hw, lt, ltm, q⟩ := h
    cases hw with
    | ap n hw =>
      refine ⟨_, rfl, _, _, _, _, rfl, rfl, SqT.of hw, rfl, rfl, _, rfl, ?_⟩
      refine iteT ⟨_, rfl, _, _, _, _, rfl, rfl, SqT.of hw, rfl, rfl, ?_⟩
      exact q
    | tg n hw =>
      refine ⟨_, rfl, _, _, _, _, rfl, rfl, SqT.of hw, rfl, rfl, _, rfl, ?_⟩
      refine iteT ⟨_, rfl, _, _, _, _, rfl, rfl, SqT.of hw, rfl, rfl, ?_⟩
      exact q
    | pr n hw =>
      rename_i wa ring turned
      refine ⟨_, rfl, _, _, _, _, rfl, rfl, SqT.of hw, rfl, rfl, _, rfl, ?_⟩
      refine iteF ?_
      have fin : ∀ x : Bool, x = nearW ring many i j → Q (.bl (!decide (V.bl x = V.bl turned))) H := fun x e => by
        have e2 : (!decide (V.bl x = V.bl turned)) = primeR ring turned many i j := by
          unfold primeR
          rw [e]
          cases nearW ring many i j <;> cases turned <;> rfl
        rw [e2]
        exact q
      refine ⟨_, rfl, _, rfl, _, _, rfl, rfl, rfl, _, rfl, ifI (fun c => ?_) (fun c => ?_)⟩
      · refine ⟨_, rfl, _, rfl, _, _, _, _, rfl, rfl, SqT.of hw, rfl, rfl, ?_⟩
        exact fin true (nearW_iff.mpr (.inl (by omega))).symm
      · refine ⟨_, rfl, _, _, _, _, rfl, rfl, SqT.of hw, rfl, _, rfl, ?_⟩
        cases ring with
        | false =>
          refine iteF ⟨_, rfl, _, rfl, _, _, _, _, rfl, rfl, SqT.of hw, rfl, rfl, ?_⟩
          refine fin false (Bool.eq_false_iff.mpr fun h => ?_).symm
          rcases nearW_iff.mp h with h | h | ⟨h, _⟩
          · omega
          · omega
          · cases h
        | true =>
          refine iteT ⟨_, rfl, rfl, _, rfl, ifI (fun c2 => ?_) (fun c2 => ?_)⟩
          · refine ⟨_, rfl, _, rfl, _, _, rfl, rfl, rfl, ?_⟩
            refine ⟨_, rfl, _, rfl, _, _, _, _, rfl, rfl, SqT.of hw, rfl, rfl, fin _ ?_⟩
            rw [Bool.eq_iff_iff, decide_eq_true_eq, nearW_iff]
            constructor
            · intro h
              have := V.int.inj h
              exact .inr (.inr ⟨rfl, .inl ⟨by omega, by omega⟩⟩)
            · rintro (h | h | ⟨_, h | h⟩)
              · omega
              · omega
              · exact congrArg V.int (by omega)
              · omega
          · refine ⟨_, rfl, _, rfl, _, _, _, _, rfl, rfl, SqT.of hw, rfl, rfl, ?_⟩
            refine fin false (Bool.eq_false_iff.mpr fun h => ?_).symm
            rcases nearW_iff.mp h with h | h | ⟨_, h | h⟩ <;> omega
def sp_goes (g : Nat) : Sp := fun vs H Q _ => ∃ (N : Addr → Prop) (v : V) (d : Dr) (ar : Bool), vs = [v, .bl ar] ∧ DrV N H v d ∧ d.hgt ≤ g ∧ d.hgt ≤ 20 ∧ ∀ H', Same H H' → Q (.bl (d.goes ar)) H'
theorem cal_goes_step {g k : Nat} {spR : Sp} (A : At K mg "_law_goes" s_law_goes) (B : Bi mg) (c_law_goes : Cal P w K mg base k "_law_goes" spR) (hR : ∀ j vs H Q E, j + 1 = g → sp_goes j vs H Q E → spR vs H Q E) : Cal P w K mg base (k + 1) "_law_goes" (sp_goes g) := by
  have nd := sc_law_goes.nd
  refine A.cal sc_law_goes (fun _ _ _ _ _ _ us hl => match us, hl with | [_, _], _ => rfl) ?_ fun f cdv A' outer s H vs Q E hr h => ⟨_, (pss_cons (ps_if (pt_not (pt_val (pe_callB (call_isiK' (K := K) rfl) (by rfl) B.isinstance (by decide +kernel) (pa_cons (pv 0) (pa_cons (pe_bltn (v := .ty "tuple") (u := .type "tuple") (by rfl) B.tuple (by decide +kernel) rfl) pa_nil))))) (pss_one (ps_ret pe_bl)) pss_nil)
  (pss_cons (ps_set (i := 2) nd rfl (.inl rfl) (pe_ix (ix_tupK (K := K) rfl) (pv 0) pe_int (fun _ _ => rfl)))
  (pss_cons (ps_if (PW.pt (pw_and (pt_cmpR op_eq (pe_ix (ix_tupK (K := K) rfl) (pv 2) pe_int (fun _ _ => rfl)) pe_str (nomark _)) (pw_and1 (PW.pt (pw_or (pt_not (pt_val (pv 1))) (pw_or1 (PW.pt (pw_and (pt_val (pe_ix (ix_tupK (K := K) rfl) (pv 2) pe_int (fun _ _ => rfl))) (pw_and1 (PW.pt (pw_or (pt_val (pe_ix (ix_tupK (K := K) rfl) (pv 2) pe_int (fun _ _ => rfl))) (pw_or1 (pt_cmpR op_eq (pe_op op_mod (pe_callB (call_lenK (K := K) rfl) (by rfl) B.len (by decide +kernel) (pa_cons (pe_ix (ix_tupK (K := K) rfl) (pv 0) pe_int (fun _ _ => rfl)) pa_nil)) pe_int) pe_int (nomark _)))))))))))))) (pss_one (ps_ret pe_bl)) pss_nil)
  (pss_one (ps_ret (pe_cmpR (op_eqDK (K := K) rfl hr.units) (pe_lc (own := [("one", 3)]) rfl nd (pi_listK (K := K) rfl (pe_ix (ix_tupK (K := K) rfl) (pv 0) pe_int (fun _ _ => rfl))) (blkOk_by (own := [("one", 3)]) (N := N_law_goes) (sc := defScope s_law_goes) (by decide +kernel)) (fun _ _ _ _ _ => (pg_name (i := 3) nd rfl (.inl rfl) (.inr rfl))) (fun _ _ _ _ _ => (pts_one (pt_not (pt_val (pe_cal c_law_goes hr (by first | decide | omega) (by rfl) passL (pa_cons (pv 3) (pa_cons (pv 1) pa_nil))))))) (fun _ _ _ _ _ => (pv 3))) (pe_lst pa_nil) (nomark _))))))), ?_⟩
  · rintro vs H Q E ⟨N, v, d, ar, rfl, _⟩
    rfl
  · obtain ⟨N, v, d, ar, rfl, hv, hg, h20, q⟩ := h
    have hd : Dp K H v d.dat := hv.dp
    refine ⟨_, rfl, _, .ty "tuple", .type (tyName _), .type "tuple", _, rfl, .ty _, tyX_of hd, kit_ty (kit_isi _ "tuple" (by simp)), ?_⟩
    rw [isi_tuple]
    cases hv with
    | leaf x =>
      rw [Dr.dat]
      have q2 := q H (Same.refl H)
      rw [Dr.goes] at q2
      exact ⟨_, rfl, iteT q2⟩
    | node n1 h1 hw n2 h2 hus ds =>
      rename_i t l wv us so ks
      rw [Dr.dat]
      refine ⟨_, rfl, iteF ?_⟩
      obtain ⟨j, rfl⟩ : ∃ j, g = j + 1 := ⟨g - 1, by rw [Dr.hgt] at hg; omega⟩
      have hk : ∀ k ∈ ks, k.hgt ≤ j := by rw [Dr.hgt] at hg; exact (hgtDr_le ks).mp (by omega)
      have hk20 : hgtDr ks ≤ 20 := by rw [Dr.hgt] at h20; omega
      have rest : so.goes ar ks.length = true → tRet (tOp (rEqD K) (tLc (iList K (tOp (rIxT K) (tVar 0) (tC (V.int 1)))) (gName 3) (tNot (tB (tCall spR [] E0 (tCons (tVar 3) (tCons (tVar 1) tNil))))) (tVar 3) [3]) (tLst tNil)) { nx := fun x H' => Q V.non H', rt := Q } [some (.ref t), some (.bl ar), some wv, none] H := fun hs => by
        refine ⟨_, rfl, _, _, _, _, rfl, rfl, SqT.of h1, rfl, l, rfl, ⟨_, SqL.of h2⟩, fun D hD => ?_⟩
        refine turns_it (walk_list (K := K) (a := l) (xs := us)) (fun i H3 => Same H H3 ∧ ∃ vs fs, H3 D = some (.lst vs) ∧ DrVs N H vs fs ∧ fs = (ks.take i).filter (fun k => !k.goes ar)) ⟨same_laid hD, [], [], upd_same, .nil, rfl⟩ (fun i H3 _ ⟨s3, _⟩ => SqL.of (s3 _ _ h2)) ?_ ?_
        · rintro i x H3 H3' hi ⟨s3, vs, fs, hD3, dv, efs⟩ ⟨rfl, hx⟩
          obtain ⟨k, hk1, hk2⟩ := ds.at_ hx
          have hkm := List.mem_of_getElem? hk1
          refine ⟨rfl, _, rfl, _, rfl, hR j _ _ _ _ rfl ⟨N, x, k, ar, rfl, hk2.keep (fun _ h => h) (KeepN.of s3), hk k hkm, Nat.le_trans (hgtDr_le ks |>.mp (Nat.le_refl _) k hkm) hk20, fun H4 s4 => ⟨_, rfl, ?_⟩⟩⟩
          have lvs := dv.len
          have lks := ds.len
          have lfs : fs.length ≤ 1000 := by
            rw [efs]
            refine Nat.le_trans (List.length_filter_le _ _) ?_
            rw [List.length_take]
            omega
          have s34 := s3.trans s4
          have et := take_next hk1
          cases c : k.goes ar with
          | false =>
            refine ⟨x, rfl, vs, s4 _ _ hD3, sizeBig (by omega), sPut s34 hD, vs ++ [x], fs ++ [k], upd_same, dv.snoc hk2, ?_⟩
            rw [et, List.filter_append, ← efs]
            simp [c]
          | true =>
            refine ⟨s34, vs, fs, s4 _ _ hD3, dv, ?_⟩
            rw [et, List.filter_append, ← efs]
            simp [c]
        · rintro H3 ⟨s3, vs, fs, hD3, dv, efs⟩
          rw [ds.len, List.take_length] at efs
          refine ⟨Nat.zero_le _, fun p hp => ?_⟩
          have s4 := same_laid (o := .lst []) hp
          have s34 := s3.trans s4
          have hfs : hgtDr fs ≤ 20 := (hgtDr_le fs).mpr fun k hk => by
            rw [efs] at hk
            exact (hgtDr_le ks).mp hk20 k (List.mem_filter.mp hk).1
          have dps := (dv.keep (N' := N) (fun _ h => h) (KeepN.of s34)).dps (K := K)
          rw [datDr_map] at dps
          refine ⟨.list (fs.map Dr.dat), .list [], .lst (SqL.of (s4 _ _ hD3)) dps, .lst (SqL.of upd_same) .nil, sh_drs fs hfs, rfl, ?_⟩
          have e : PyData.eqv (.list (fs.map Dr.dat)) (.list []) = (Dr.node so ks).goes ar := by
            rw [Dr.goes, hs, Bool.true_and]
            cases c : goesDr ar ks with
            | true =>
              have h := (goesDr_iff ar ks).mp c
              have : fs = [] := by
                rw [efs, List.filter_eq_nil_iff]
                intro k hk
                rw [h k hk]
                decide
              rw [this]
              rfl
            | false =>
              cases e2 : fs with
              | nil =>
                rw [efs, List.filter_eq_nil_iff] at e2
                have : goesDr ar ks = true := (goesDr_iff ar ks).mpr fun k hk => by
                  have := e2 k hk
                  cases h : k.goes ar with
                  | true => rfl
                  | false => rw [h] at this; exact absurd rfl this
                rw [this] at c
                cases c
              | cons a r => rfl
          rw [e]
          exact q _ s34
      refine ⟨_, rfl, _, _, _, _, rfl, rfl, SqT.of h1, rfl, ?_⟩
      have nope : so.goes ar ks.length = false → ∀ H', Same H H' → Q (.bl false) H' := fun h H' s' => by
        have := q H' s'
        rw [Dr.goes, h, Bool.false_and] at this
        exact this
      cases hw with
      | ap n hw => exact ⟨_, rfl, _, _, _, _, rfl, rfl, SqT.of hw, rfl, rfl, _, rfl, iteF (iteF (rest rfl))⟩
      | tg n hw => exact ⟨_, rfl, _, _, _, _, rfl, rfl, SqT.of hw, rfl, rfl, _, rfl, iteF (iteF (rest rfl))⟩
      | pr n hw =>
        rename_i wa ring turned
        refine ⟨_, rfl, _, _, _, _, rfl, rfl, SqT.of hw, rfl, rfl, _, rfl, iteT ?_⟩
        cases ar with
        | false => exact ⟨_, rfl, _, rfl, iteT (iteT (nope rfl H (Same.refl H)))⟩
        | true =>
          refine ⟨_, rfl, _, rfl, iteF ?_⟩
          refine ⟨_, rfl, _, _, _, _, rfl, rfl, SqT.of hw, rfl, _, rfl, ?_⟩
          cases ring with
          | false => exact iteF (iteF (rest rfl))
          | true =>
            refine iteT ⟨_, rfl, _, _, _, _, rfl, rfl, SqT.of hw, rfl, _, rfl, ?_⟩
            cases turned with
            | true => exact iteT (iteT (nope rfl H (Same.refl H)))
            | false =>
              refine iteF ⟨_, rfl, _, _, _, _, rfl, rfl, SqT.of h1, rfl, ?_⟩
              have lk : us.length = ks.length := ds.len
              refine ⟨_, _, rfl, .inl ⟨_, SqL.of h2, rfl⟩, _, _, rfl, rfl, (by show (0 : Int) < 2; decide), rfl, _, rfl, ifI (fun c => ?_) (fun c => ?_)⟩
              · have c2 : ks.length % 2 = 1 := by omega
                refine nope ?_ H (Same.refl H)
                unfold DSort.goes
                rw [c2]
                rfl
              · have c2 : ks.length % 2 = 0 := by omega
                refine rest ?_
                unfold DSort.goes
                rw [c2]
                rfl
theorem cal_goes (A : At K mg "_law_goes" s_law_goes) (B : Bi mg) : ∀ g : Nat, Cal P w K mg base (1 + g + 1) "_law_goes" (sp_goes g)
  | 0 => by
    have c0 : Cal P w K mg base (0 + 1) "_law_goes" (fun _ _ _ _ => False) := A.cal sc_law_goes (fun _ _ _ _ _ _ us hl => match us, hl with | [_, _], _ => rfl) (fun _ _ _ _ h => h.elim) fun _ _ _ _ _ _ _ _ _ _ h => h.elim
    exact cal_goes_step (g := 0) A B c0 fun j _ _ _ _ h => absurd h (Nat.succ_ne_zero j)
  | g + 1 => cal_goes_step A B (cal_goes A B g) fun j _ _ _ _ h x => by
    rw [← Nat.succ.inj h]
    exact x
end
end Ns

/-! Own layer N: the table of a net's ties. -/
namespace Ns
open PySem PySem.Spec PyProof.Rows L2
local macro_rules | `(tactic| walk_at "look") => `(tactic| first | assumption | exact upd_same | (refine (upd_ne (by first | assumption | exact Ne.symm (by assumption))).trans ?_; walk_at "look"))
local macro_rules | `(tactic| walk_at "cond") => `(tactic| first | assumption | omega | (dsimp only; omega) | exact ⟨by omega, by omega⟩ | decide | exact ⟨by decide, by decide, by decide⟩ | exact .inr ⟨by decide, by decide⟩ | exact .inl ⟨by decide, by decide⟩ | exact .inr ⟨by omega, by omega⟩ | exact .inl ⟨by omega, by omega⟩)
local macro_rules | `(tactic| walk_at "rd1") => `(tactic| first
  | refine ⟨_, rfl, ?_⟩
  | refine ⟨_, _, rfl, rfl, ?_⟩
  | refine ⟨rfl, ?_⟩
  | refine ⟨_, _, rfl, rfl, (by walk_at "cond"), ?_⟩
  | refine ⟨_, _, _, _, rfl, rfl, SqL.of (by walk_at "look"), rfl, ?_⟩
  | refine ⟨_, _, _, _, rfl, rfl, SqT.of (by walk_at "look"), rfl, ?_⟩
  | refine ⟨_, _, _, _, rfl, rfl, (by walk_at "look"), rfl, ?_⟩
  | refine .inl ⟨_, rfl, ?_⟩
  | refine ⟨.inl ⟨rfl, _, SqL.of (by walk_at "look")⟩, ?_⟩
  | refine ⟨_, _, rfl, ⟨by omega, by omega, by omega, by omega⟩, ?_⟩
  | refine ⟨_, rfl, (by omega), (by omega), ?_⟩
  | refine And.intro (by walk_at "cond") ?_)
local macro_rules | `(tactic| walk_at "rd") => `(tactic| repeat (walk_at "rd1"))

abbrev N_matrix : List Str := ["net", "out", "x", "y"]
theorem sc_matrix : FnScope N_matrix ["net"] (defScope s_matrix) := ⟨rfl, rfl, rfl, by decide +kernel, rfl, by decide +kernel, by decide +kernel⟩
def tieT (ties : List (Nat × Nat)) : Tm := fun i j => decide ((i, j) ∈ ties ∨ (j, i) ∈ ties)
theorem tieT_snoc {ties : List (Nat × Nat)} {p : Nat × Nat} {i j : Nat} : setT (setT (tieT ties) p.1 p.2 true) p.2 p.1 true i j = tieT (ties ++ [p]) i j := by
  unfold setT tieT
  have e : ((i, j) ∈ ties ++ [p] ∨ (j, i) ∈ ties ++ [p]) ↔ (i = p.2 ∧ j = p.1) ∨ (i = p.1 ∧ j = p.2) ∨ ((i, j) ∈ ties ∨ (j, i) ∈ ties) := by
    rw [List.mem_append, List.mem_append, List.mem_singleton, List.mem_singleton, Prod.ext_iff, Prod.ext_iff]
    constructor
    · rintro ((h | ⟨h1, h2⟩) | (h | ⟨h1, h2⟩))
      · exact .inr (.inr (.inl h))
      · exact .inr (.inl ⟨h1, h2⟩)
      · exact .inr (.inr (.inr h))
      · exact .inl ⟨h2, h1⟩
    · rintro (⟨h1, h2⟩ | ⟨h1, h2⟩ | h | h)
      · exact .inr (.inr ⟨h2, h1⟩)
      · exact .inl (.inr ⟨h1, h2⟩)
      · exact .inl (.inl h)
      · exact .inr (.inl h)
  by_cases h1 : i = p.2 ∧ j = p.1
  · rw [if_pos h1]
    exact (decide_eq_true (e.mpr (.inl h1))).symm
  · rw [if_neg h1]
    by_cases h2 : i = p.1 ∧ j = p.2
    · rw [if_pos h2]
      exact (decide_eq_true (e.mpr (.inr (.inl h2)))).symm
    · rw [if_neg h2]
      exact decide_eq_decide.mpr ⟨fun h => e.mpr (.inr (.inr h)), fun h => (e.mp h).elim (fun h => absurd h h1) fun h => h.elim (fun h => absurd h h2) id⟩
theorem tieT_sym (ties : List (Nat × Nat)) (i j : Nat) : tieT ties i j = tieT ties j i := decide_eq_decide.mpr Or.comm
theorem tieT_irr {n : Nat} {ties : List (Nat × Nat)} (h : Good n ties) (i : Nat) : tieT ties i i = false := by
  refine decide_eq_false fun h2 => ?_
  have : (i, i) ∈ ties := h2.elim id id
  have := (h.1 _ this).1
  omega
theorem rows_mat {H1 H : Hp} {D : Addr} {rows : List Addr} {n : Nat} {f : Nat → Nat → Bool} (hy : H D = some (.lst (rows.map V.ref))) (rw : Rws H1 H D rows ((List.range n).map fun i => rowV n (f i))) : Mat H D rows n f := by
  have hl := rw.2.length
  rw [List.length_map, List.length_range] at hl
  refine ⟨hy, hl, rw.1, fun i a h => ?_⟩
  obtain ⟨c, hc, h1, _⟩ := pAtL rw.2 h
  have hi := (List.getElem?_eq_some_iff.mp h).1
  rw [List.getElem?_map, List.getElem?_range (by omega)] at hc
  have e := Option.some.inj hc
  rw [h1, ← e]
theorem Rws.new {H1 H : Hp} {D : Addr} {rows : List Addr} {cs : List (List V)} (x : Rws H1 H D rows cs) : ∀ a ∈ rows, H1 a = none := fun a ha => by
  obtain ⟨c, _, _, _, h⟩ := pMemL x.2 ha
  exact h
theorem rep_rowV (n : Nat) : (List.replicate n [V.bl false]).flatten = rowV n fun _ => false := by
  unfold rowV
  rw [List.map_const', List.length_range]
  induction n with
  | zero => rfl
  | succ n ih => rw [List.replicate_succ, List.replicate_succ, List.flatten_cons, ih]; rfl
section
variable {P : Program} {w : World} {K : PySem.W.Frag} {mg : Str → Option Value} {base : Heap}
def sp_matrix : Sp := fun vs H Q _ => ∃ (v : V) (n : Nat) (ties : List (Nat × Nat)), vs = [v] ∧ Net H v n ties ∧ n ≤ 1000 ∧ (∀ p ∈ ties, p.1 < n ∧ p.2 < n) ∧ ∀ (m : Addr) (rows : List Addr) (H' : Hp), Same H H' → H m = none → (∀ a ∈ rows, H a = none) → Mat H' m rows n (tieT ties) → Q (.ref m) H'
theorem cal_matrix (A : At K mg "matrix" s_matrix) (B : Bi mg) : Cal P w K mg base 1 "matrix" sp_matrix := by
  have nd := sc_matrix.nd
  refine A.cal sc_matrix (fun _ _ _ _ _ _ us hl => match us, hl with | [_], _ => rfl) ?_ fun f cdv A' outer s H vs Q E hr h => ⟨_, (pss_cons (ps_setLc (i := 1) (own := [("x", 2)]) rfl nd rfl rfl (sw_true rfl rfl rfl (by decide +kernel)) (pi_range1 (by rfl) B.range (pa_cons (pe_ix (ix_tupK (K := K) rfl) (pv 0) pe_int (fun _ _ => rfl)) pa_nil)) (blkOk_by (own := [("x", 2)]) (N := N_matrix) (sc := defScope s_matrix) (by decide +kernel)) (fun _ _ _ _ _ => (pg_name (i := 2) nd rfl (.inl rfl) (.inr rfl))) (fun _ _ _ _ _ => pts_nil) (fun _ _ _ _ _ => (pe_op op_rep (pe_lst (pa_cons pe_bl pa_nil)) (pe_ix (ix_tupK (K := K) rfl) (pv 0) pe_int (fun _ _ => rfl)))))
  (pss_cons (ps_for passOwn rfl (pi_tupK (K := K) rfl (pe_ix (ix_tupK (K := K) rfl) (pv 0) pe_int (fun _ _ => rfl))) (pg_tupK (K := K) (n := 2) rfl rfl (pgs_cons (pg_name (i := 2) nd rfl (.inl rfl)) (pgs_cons (pg_name (i := 3) nd rfl (.inl rfl)) pgs_nil))) (pss_cons (ps_asg pe_bl (pg_sub (pe_ix (ix_listK (K := K) rfl) (pv 1) (pv 2) (fun _ _ => rfl)) (pv 3) set_list))
  (pss_one (ps_asg pe_bl (pg_sub (pe_ix (ix_listK (K := K) rfl) (pv 1) (pv 3) (fun _ _ => rfl)) (pv 2) set_list)))))
  (pss_one (ps_ret (pv 1))))), ?_⟩
  · rintro vs H Q E ⟨v, n, ties, rfl, _⟩
    rfl
  · obtain ⟨v, n, ties, rfl, hN, hn, hg, q⟩ := h
    obtain ⟨t, u, rfl, h, t2, us, rfl, h2, pr⟩ := hN
    refine ⟨_, rfl, _, _, _, _, rfl, rfl, SqT.of h, rfl, _, rfl, by omega, by omega, fun D hD => ?_⟩
    refine comp_rows (lo := 0) (n := (n : Int).toNat) (sizeBig (by omega)) (fun _ => rowV n fun _ => false) hD ?_ ?_
    · intro i H2 Yes No hi sm2 yes
      refine ⟨rfl, by show 1 ≤ sizeLine; decide, fun p hp => ?_⟩
      refine ⟨_, rfl, _, _, _, _, rfl, rfl, SqT.of (sNew sm2 hp _ _ h), rfl, p, n, _, rfl, rfl, upd_same, by omega, by omega, ?_, fun a ha => ?_⟩
      · show 1 * (n : Int).toNat ≤ _
        exact Nat.le_of_lt (sizeBig (by omega))
      · refine yes a _ (sNew (same_laid hp) ha) ?_ ?_
        · by_cases e : a = p
          · rw [e]
            exact hp
          · rw [upd_ne e] at ha
            exact ha
        · rw [upd_same, show ((n : Int)).toNat = n from Int.toNat_natCast n, rep_rowV]
    · intro H2 rows sm2 hy rw
      rw [show ((n : Int)).toNat = n from Int.toNat_natCast n] at rw
      have M0 : Mat H2 D rows n (tieT []) := (rows_mat (f := fun _ _ => false) hy rw).congr fun i j _ _ => rfl
      have hnew := rw.new
      refine ⟨_, rfl, _, _, _, _, rfl, rfl, SqT.of (sm2 _ _ h), rfl, t2, rfl, ⟨_, SqT.of (sm2 _ _ h2)⟩, ?_⟩
      refine for_tup (K := K) (a := t2) (xs := us) (fun i σ H1 => ∃ v2 v3, σ = [some (.ref t), some (.ref D), v2, v3] ∧ Same H H1 ∧ Mat H1 D rows n (tieT (ties.take i))) ⟨none, none, rfl, sm2, M0⟩ (fun i σ H1 _ ⟨_, _, _, s1, _⟩ => SqT.of (s1 _ _ h2)) ?_ ?_
      · rintro i x σ H1 hx ⟨v2, v3, rfl, s1, M1⟩
        obtain ⟨p, hp, tp, rfl, ht⟩ := pAtL pr hx
        have hb := hg p (List.mem_of_getElem? hp)
        refine ⟨tp, _, rfl, SqT.of (s1 _ _ ht), rfl, _, _, rfl, _, _, rfl, rfl, ?_⟩
        refine wrM M1 rfl rfl rfl hb.1 hb.2 fun H3 M3 o3 _ => ?_
        refine wrM M3 rfl rfl rfl hb.2 hb.1 fun H4 M4 o4 _ => ?_
        refine ⟨_, _, rfl, Out.same s1 hnew (o3.trans o4), M4.congr fun a b _ _ => ?_⟩
        rw [List.take_add_one, hp]
        exact tieT_snoc
      · rintro σ H1 ⟨v2, v3, rfl, s1, M1⟩
        rw [pr.length, List.take_length] at M1
        exact ⟨_, rfl, q D rows H1 s1 hD hnew M1⟩
end
end Ns

/-! Own layer: sorted of a tuple of ints. -/
namespace Ns
open PySem PySem.Spec PyProof.Rows L2
/-- sorted(t), t a list or tuple of ints -/
def rSortedIT (K : PySem.W.Frag) : List V → Hp → VK → Prop := fun vs H Q => ∃ (a : Addr) (ns : List Int), vs = [V.ref a] ∧ (SqL K H a (ns.map V.int) ∨ SqT K H a (ns.map V.int)) ∧
  ∀ (ns' : List Int) (p : Addr), ns'.Perm ns → ns'.Pairwise (· ≤ ·) → H p = none → Q (.ref p) (upd H p (.lst (ns'.map V.int)))
theorem cr_sortedIT {X : Cx} {K : PySem.W.Frag} (hK : X.K = K) : CallR X (.builtin "sorted") (rSortedIT K) := by
  subst hK
  intro pins s σ H vs us Q I r h
  obtain ⟨a, ns, rfl, hs, q⟩ := h
  obtain ⟨u, rfl, rx⟩ := vals1 r
  cases rx
  obtain ⟨its, rv, T, o, n, hT, ho, hc, hd, hz⟩ : ∃ (its : List Value), Vals (ns.map V.int) its ∧ ∃ (T : String) (o : Obj) (n : Nat), (T = "list" ∨ T = "tuple") ∧ s.heap.get? a = some o ∧ o.cls = .type T ∧ o.data = .seq its.toArray n ∧ (ns.map V.int).length ≤ sizeLine := by
    rcases hs with hs | hs
    · obtain ⟨its, rv, pl, hz⟩ := I.list hs
      obtain ⟨o, ho, hc, n, hd⟩ := pl.isList
      exact ⟨its, rv, _, o, n, .inl rfl, ho, hc, hd, hz⟩
    · obtain ⟨its, rv, ⟨o, ho, hc, n, hd⟩, hz⟩ := I.tuple hs
      exact ⟨its, rv, _, o, n, .inr rfl, ho, hc, hd, hz⟩
  have hi := rv.ints
  have hil : its.length ≤ sizeLine := by rw [← rv.length]; exact hz
  refine Calls.call_function_entry PyProof.Rows.kind_sorted PyProof.Rows.plain_sorted PyProof.Rows.entry_sorted (PyProof.Rows.args_sorted1 _) ?_
  unfold Builtin.«sorted»
  refine wpAny_bind (m := checkCount "sorted" 1 1 _) (wpAny_pure ?_)
  refine wpAny_bind (wpAny_collect_seq a hT ho hc hd (hsz := by simpa using hil) fun h' hk => ?_)
  rw [show its.toArray.toList = its from rfl]
  have I1 : Inv X pins σ H { s with heap := h' } := I.kept (t' := s.toks) hk
  refine wpAny_bind (wpAny_newList ?_ hil)
  have hoL : (h'.push (seqObj "list" its.toArray 0)).get? h'.objs.size = some (seqObj "list" its.toArray 0) := Heap.get?_push_size _ rfl
  show wpAny _ _ _ _ _ { s with heap := h'.push (seqObj "list" its.toArray 0) }
  refine wpAny_bind (wpAny_holding (wpAny_call_entry PyProof.Rows.slot_list_sort ⟨_, hoL, rfl⟩ PyProof.Rows.entry_list_sort
    (SrtO.list_sort_ord (s := { s with heap := h'.push (seqObj "list" its.toArray 0) }) SrtO.swo_int hoL hil (fun h2 => SrtO.ints_sortable hi h2) fun out h1 h2 => ⟨_, rfl, ?_⟩) (PyProof.Rows.args_list_sort _)))
  obtain ⟨k1, k2, k3⟩ := SrtO.ints_out hi h1 h2
  obtain ⟨e', he'⟩ := PyProof.Rows.sortedHeap_at (vs := its) (out := out.toArray) hoL
  have hlen : ((out.map SrtO.iv).map V.int).length ≤ sizeLine := by
    rw [List.length_map, k2.length_eq]
    rw [List.length_map] at hz
    exact hz
  have new : ObjOk X.prog X.w (upd H h'.objs.size (.lst ((out.map SrtO.iv).map V.int))) (sortedHeap (h'.push (seqObj "list" its.toArray 0)) h'.objs.size its out.toArray) h'.objs.size (.lst ((out.map SrtO.iv).map V.int)) := ⟨hlen, out, e', vals_of_ints k1, he'⟩
  refine wpAny_pure ⟨_, rfl, .ref h'.objs.size, upd H h'.objs.size (.lst ((out.map SrtO.iv).map V.int)), I1.laid (t' := s.toks) (fun b u e => ?_) (Nat.le_refl _) new, rfl, q _ _ k2 k3 (I1.hok.fresh (Nat.le_refl _))⟩
  have hb : b < h'.objs.size := Heap.lt_size e
  rw [PyProof.Rows.sortedHeap_old (Nat.ne_of_lt hb) (by rw [size_push']; exact Nat.lt_succ_of_lt hb)]
  exact Heap.get?_push_of_some _ e
end Ns

/-! Own layer Tn: data of tuples alone, none long, as objects of the heap; what stays where tables grow. -/
namespace Ns
open PySem PySem.Spec PyProof.Rows L2 LamX
mutual
inductive TN (N : Nat) (H : Hp) : V → PyData → Prop
  | non : TN N H .non .none
  | bl (b : Bool) : TN N H (.bl b) (.bool b)
  | int (i : Int) : TN N H (.int i) (.int i)
  | str (x : Str) : TN N H (.str x) (.str x)
  | tup {a : Addr} {xs : List V} {ds : List PyData} : H a = some (.tup xs) → xs.length ≤ N → TNA N H xs ds → TN N H (.ref a) (.tuple ds)
inductive TNA (N : Nat) (H : Hp) : List V → List PyData → Prop
  | nil : TNA N H [] []
  | cons {v : V} {d : PyData} {vs : List V} {ds : List PyData} : TN N H v d → TNA N H vs ds → TNA N H (v :: vs) (d :: ds)
end
mutual
theorem TN.dp {K : PySem.W.Frag} {N : Nat} {H : Hp} : ∀ {v : V} {d : PyData}, TN N H v d → Dp K H v d
  | _, _, .non => .non
  | _, _, .bl b => .bl b
  | _, _, .int i => .int i
  | _, _, .str x => .str x
  | _, _, .tup h _ t => .tup (SqT.of h) t.dp
theorem TNA.dp {K : PySem.W.Frag} {N : Nat} {H : Hp} : ∀ {vs : List V} {ds : List PyData}, TNA N H vs ds → DpAll K H vs ds
  | _, _, .nil => .nil
  | _, _, .cons h t => .cons h.dp t.dp
end
mutual
theorem TN.keep {N M : Nat} {H H' : Hp} (k : KeepT H H') (l : N ≤ M) : ∀ {v : V} {d : PyData}, TN N H v d → TN M H' v d
  | _, _, .non => .non
  | _, _, .bl b => .bl b
  | _, _, .int i => .int i
  | _, _, .str x => .str x
  | _, _, .tup h hl t => .tup (k _ _ h) (Nat.le_trans hl l) (t.keep k l)
theorem TNA.keep {N M : Nat} {H H' : Hp} (k : KeepT H H') (l : N ≤ M) : ∀ {vs : List V} {ds : List PyData}, TNA N H vs ds → TNA M H' vs ds
  | _, _, .nil => .nil
  | _, _, .cons h t => .cons (h.keep k l) (t.keep k l)
end
theorem TNA.app {N : Nat} {H : Hp} : ∀ {vs ws : List V} {ds es : List PyData}, TNA N H vs ds → TNA N H ws es → TNA N H (vs ++ ws) (ds ++ es)
  | _, _, _, _, .nil, h => h
  | _, _, _, _, .cons a t, h => .cons a (t.app h)
theorem TNA.len {N : Nat} {H : Hp} : ∀ {vs : List V} {ds : List PyData}, TNA N H vs ds → vs.length = ds.length
  | _, _, .nil => rfl
  | _, _, .cons _ t => congrArg Nat.succ t.len
theorem TNA.rev {N : Nat} {H : Hp} : ∀ {vs : List V} {ds : List PyData}, TNA N H vs ds → TNA N H vs.reverse ds.reverse
  | _, _, .nil => .nil
  | _, _, .cons h t => by
    rw [List.reverse_cons, List.reverse_cons]
    exact t.rev.app (.cons h .nil)
theorem TNA.take {N : Nat} {H : Hp} : ∀ {vs : List V} {ds : List PyData} (k : Nat), TNA N H vs ds → TNA N H (vs.take k) (ds.take k)
  | _, _, 0, _ => .nil
  | _, _, _ + 1, .nil => .nil
  | _, _, k + 1, .cons h t => .cons h (t.take k)
theorem TNA.drop {N : Nat} {H : Hp} : ∀ {vs : List V} {ds : List PyData} (k : Nat), TNA N H vs ds → TNA N H (vs.drop k) (ds.drop k)
  | _, _, 0, h => h
  | _, _, _ + 1, .nil => .nil
  | _, _, k + 1, .cons _ t => t.drop k
theorem TNA.at_ {N : Nat} {H : Hp} : ∀ {vs : List V} {ds : List PyData} {i : Nat} {v : V}, TNA N H vs ds → vs[i]? = some v → ∃ d, ds[i]? = some d ∧ TN N H v d
  | _, _, _, _, .nil, h => by simp at h
  | _, _, 0, _, .cons h _, e => by simp at e; subst e; exact ⟨_, rfl, h⟩
  | _, _, i + 1, _, .cons _ t, e => by
    obtain ⟨d, h1, h2⟩ := t.at_ (i := i) (by simpa using e)
    exact ⟨d, by simpa using h1, h2⟩
theorem tna_ints {N : Nat} {H : Hp} : ∀ ns : List Int, TNA N H (ns.map V.int) (ns.map PyData.int)
  | [] => .nil
  | _ :: r => .cons (.int _) (tna_ints r)
theorem tna_pts {N : Nat} {H : Hp} : ∀ xs : List Nat, TNA N H (xs.map pI) (xs.map fun x : Nat => PyData.int (x : Int))
  | [] => .nil
  | _ :: r => .cons (.int _) (tna_pts r)
/-! ### what stays where tables grow -/
theorem eKt {H H' : Hp} (e : ExtN H H') : KeepT H H' := fun _ _ h => e _ _ h fun _ z => by cases z
theorem eSame {H H' : Hp} (s : Same H H') : ExtN H H' := ExtN.of s
theorem eNew {H : Hp} {p : Addr} {o : HO} (h : H p = none) : ExtN H (upd H p o) := eSame (same_laid h)
theorem tabs_same {T : List (Addr × Str)} {H H' : Hp} (t : Tabs T H) (s : Same H H') : Tabs T H' := t.ext s
/-! ### a def's body by itself -/
section
variable {P : Program} {w : World} {K : PySem.W.Frag} {mg : Str → Option Value} {base : Heap}
/-- a def's body keeps the promise sp -/
def Body (P : Program) (w : World) (K : PySem.W.Frag) (mg : Str → Option Value) (base : Heap) (k : Nat) (x : Str) (st : Stmt) (N : List Str) (sp : Sp) : Prop :=
  ∀ (f : Addr) (cdv : Value) (A : Around) (outer : List Env) (s : Shared) (H : Hp) (vs : List V) (Q : VK) (E : XK), Room k (A.deeper (envOfC x (defScope st) s.heap.objs.size f cdv)) → sp vs H Q E →
    ∃ t, PSs (cxOf (L2.CX P w) P w K mg base N x (defScope st) f cdv A outer s H E) (defBody st) t ∧ t { nx := fun _ H' => Q .non H', rt := Q } (start N vs) H
def orSp (a b : Sp) : Sp := fun vs H Q E => a vs H Q E ∨ b vs H Q E
theorem Body.or {k : Nat} {x : Str} {st : Stmt} {N : List Str} {a b : Sp} (ha : Body P w K mg base k x st N a) (hb : Body P w K mg base k x st N b) : Body P w K mg base k x st N (orSp a b) :=
  fun f cdv A outer s H vs Q E hr h => h.elim (ha f cdv A outer s H vs Q E hr) (hb f cdv A outer s H vs Q E hr)
end
end Ns

/-! Own layer: pieces by ties, or by what is not tied. -/
namespace Ns
open PySem PySem.Spec PyProof.Rows L2
local macro_rules | `(tactic| walk_at "look") => `(tactic| first | assumption | exact upd_same | (refine (upd_ne (by first | assumption | exact Ne.symm (by assumption))).trans ?_; walk_at "look"))
local macro_rules | `(tactic| walk_at "cond") => `(tactic| first | assumption | omega | (dsimp only; omega) | exact ⟨by omega, by omega⟩ | decide | exact ⟨by decide, by decide, by decide⟩ | exact .inr ⟨by decide, by decide⟩ | exact .inl ⟨by decide, by decide⟩ | exact .inr ⟨by omega, by omega⟩ | exact .inl ⟨by omega, by omega⟩)
local macro_rules | `(tactic| walk_at "rd1") => `(tactic| first
  | refine ⟨_, rfl, ?_⟩
  | refine ⟨_, _, rfl, rfl, ?_⟩
  | refine ⟨rfl, ?_⟩
  | refine ⟨_, _, rfl, rfl, (by walk_at "cond"), ?_⟩
  | refine ⟨_, _, _, _, rfl, rfl, SqL.of (by walk_at "look"), rfl, ?_⟩
  | refine ⟨_, _, _, _, rfl, rfl, SqT.of (by walk_at "look"), rfl, ?_⟩
  | refine ⟨_, _, _, _, rfl, rfl, (by walk_at "look"), rfl, ?_⟩
  | refine .inl ⟨_, rfl, ?_⟩
  | refine ⟨.inl ⟨rfl, _, SqL.of (by walk_at "look")⟩, ?_⟩
  | refine ⟨_, _, rfl, ⟨by omega, by omega, by omega, by omega⟩, ?_⟩
  | refine ⟨_, rfl, (by omega), (by omega), ?_⟩
  | refine And.intro (by walk_at "cond") ?_)
local macro_rules | `(tactic| walk_at "rd") => `(tactic| repeat (walk_at "rd1"))

abbrev N_pieces_by : List Str := ["tied", "points", "how", "left", "out", "piece", "now", "x", "y"]
theorem sc_pieces_by : FnScope N_pieces_by ["tied", "points", "how"] (defScope s_pieces_by) := ⟨rfl, rfl, rfl, by decide +kernel, rfl, by decide +kernel, by decide +kernel⟩
theorem fm_filt (p : Nat → Bool) : ∀ l : List Nat, l.filterMap (fun y => if p y = true then some y else none) = l.filter p
  | [] => rfl
  | a :: l => by
    cases e : p a with
    | true => rw [List.filterMap_cons_some (b := a) (by rw [if_pos e]), List.filter_cons_of_pos e, fm_filt p l]
    | false => rw [List.filterMap_cons_none (by rw [if_neg (by rw [e]; decide)]), List.filter_cons_of_neg (by rw [e]; decide), fm_filt p l]
theorem pLastN {xs : List Nat} (h : xs ≠ []) : ∃ ys y, xs = ys ++ [y] := ⟨xs.dropLast, xs.getLast h, (List.dropLast_concat_getLast h).symm⟩
/-- a tuple of points -/
def TpN (H : Hp) (v : V) (l : List Nat) : Prop := ∃ t, v = .ref t ∧ H t = some (.tup (l.map pI))
theorem persTpN : PersT TpN := fun _ _ _ _ k ⟨t, e, h⟩ => ⟨t, e, k _ _ h⟩
section
variable {P : Program} {w : World} {K : PySem.W.Frag} {mg : Str → Option Value} {base : Heap}
def sp_pieces_by (K : PySem.W.Frag) : Sp := fun vs H Q _ => ∃ (m a : Addr) (rows : List Addr) (n : Nat) (T : Tm) (ps : List Nat) (how : Bool), vs = [.ref m, .ref a, .bl how] ∧ Mat H m rows n T ∧ SqT K H a (ps.map pI) ∧ (∀ x ∈ ps, x < n) ∧ ps.length ≤ 40 ∧ ∀ (r : Addr) (us : List V) (Ls : List (List Nat)) H', Same H H' → H' r = some (.lst us) → Paired (TpN H') us Ls → PcsOk T how ps Ls → Q (.ref r) H'
theorem cal_pieces_by (A : At K mg "pieces_by" s_pieces_by) (B : Bi mg) : Cal P w K mg base 1 "pieces_by" (sp_pieces_by K) := by
  have nd := sc_pieces_by.nd
  refine A.cal sc_pieces_by (fun _ _ _ _ _ _ us hl => match us, hl with | [_, _, _], _ => rfl) ?_ fun f cdv A' outer s H vs Q E hr h => ⟨_, (pss_cons (ps_set (i := 3) nd rfl (.inl rfl) (pe_callTy (call_list_ofK (K := K) rfl) (by rfl) B.list (by decide +kernel) (pa_cons (pv 1) pa_nil)))
  (pss_cons (ps_set (i := 4) nd rfl (.inl rfl) (pe_lst pa_nil))
  (pss_cons (ps_while passOwn (pt_truthK (K := K) rfl (pv 3) (by intro _; rfl)) (pss_cons (ps_par (i := 5) (j := 6) rfl nd rfl rfl (by decide) rfl rfl (pa_cons (pe_lst pa_nil) (pa_cons (pe_lst (pa_cons (pe_bm PySem.F.plainAttrs_list PySem.F.slot_list_pop PySem.F.type_list_pop mt_popAt (pv 3) (pa_cons pe_int pa_nil)) pa_nil)) pa_nil)) (by rfl))
  (pss_cons (ps_while passOwn (pt_truthK (K := K) rfl (pv 6) (by intro _; rfl)) (pss_cons (ps_set (i := 7) nd rfl (.inr rfl) (pe_bm0 PySem.F.plainAttrs_list PySem.F.slot_list_pop PySem.F.type_list_pop mt_pop (pv 6)))
  (pss_cons (ps_expr (pe_bm PySem.F.plainAttrs_list PySem.F.slot_list_append PySem.F.type_list_append mt_append (pv 5) (pa_cons (pv 7) pa_nil)))
  (pss_cons (ps_expr (pe_bm PySem.F.plainAttrs_list PySem.F.slot_list_extend PySem.F.type_list_extend mt_extend (pv 6) (pa_cons (pe_lc (own := [("y", 8)]) rfl nd (pi_listK (K := K) rfl (pv 3)) (blkOk_by (own := [("y", 8)]) (N := N_pieces_by) (sc := defScope s_pieces_by) (by decide +kernel)) (fun _ _ _ _ _ => (pg_name (i := 8) nd rfl (.inl rfl) (.inr rfl))) (fun _ _ _ _ _ => (pts_one (pt_cmpR op_eq (pe_ix (ix_listK (K := K) rfl) (pe_ix (ix_listK (K := K) rfl) (pv 0) (pv 7) (fun _ _ => rfl)) (pv 8) (fun _ _ => rfl)) (pv 2) (nomark _)))) (fun _ _ _ _ _ => (pv 8))) pa_nil)))
  (pss_one (ps_setLc (i := 3) (own := [("y", 8)]) rfl nd rfl rfl (sw_true rfl rfl rfl (by decide +kernel)) (pi_listK (K := K) rfl (pv 3)) (blkOk_by (own := [("y", 8)]) (N := N_pieces_by) (sc := defScope s_pieces_by) (by decide +kernel)) (fun _ _ _ _ _ => (pg_name (i := 8) nd rfl (.inl rfl) (.inr rfl))) (fun _ _ _ _ _ => (pts_one (pt_cmpR op_ne (pe_ix (ix_listK (K := K) rfl) (pe_ix (ix_listK (K := K) rfl) (pv 0) (pv 7) (fun _ _ => rfl)) (pv 8) (fun _ _ => rfl)) (pv 2) (nomark _)))) (fun _ _ _ _ _ => (pv 8))))))))
  (pss_one (ps_expr (pe_bm PySem.F.plainAttrs_list PySem.F.slot_list_append PySem.F.type_list_append mt_append (pv 4) (pa_cons (pe_callTy (call_tuple_ofK (K := K) rfl) (by rfl) B.tuple (by decide +kernel) (pa_cons (pe_callB (cr_sortedIT (K := K) rfl) (by rfl) B.sorted (by decide +kernel) (pa_cons (pv 5) pa_nil)) pa_nil)) pa_nil)))))))
  (pss_one (ps_ret (pv 4)))))), ?_⟩
  · rintro vs H Q E ⟨m, a, rows, n, T, ps, how, rfl, _⟩
    rfl
  · obtain ⟨m, a, rows, n, T, ps, how, rfl, hM, hs, hlt, hl, q⟩ := h
    refine ⟨_, rfl, a, ps.map pI, rfl, .inr hs, fun pl hpl => ?_⟩
    have x1 := same_laid (o := .lst (ps.map pI)) hpl
    refine ⟨Nat.zero_le _, fun po hpo => ?_⟩
    have x2 := same_laid (o := .lst []) hpo
    have poH : H po = none := gone x1 hpo
    have hpl2 := x2 _ _ (show (upd H pl (.lst (ps.map pI))) pl = some (.lst (ps.map pI)) from upd_same)
    have hpo2 : (upd (upd H pl (.lst (ps.map pI))) po (.lst [])) po = some (.lst []) := upd_same
    have s2 := x1.trans x2
    have nlo : pl ≠ po := ne_of_none (H := upd H pl (.lst (ps.map pI))) upd_same hpo
    generalize (upd (upd H pl (.lst (ps.map pI))) po (.lst [])) = H2 at s2 hpl2 hpo2
    refine ⟨fun mm σ H3 => ∃ (p' : Addr) (v5 v6 v7 v8 : Option V) (us : List V) (Ls : List (List Nat)) (left : List Nat), σ = [some (.ref m), some (.ref a), some (.bl how), some (.ref p'), some (.ref po), v5, v6, v7, v8] ∧ Same H H3 ∧ H p' = none ∧ p' ≠ po ∧ H3 p' = some (.lst (left.map pI)) ∧ H3 po = some (.lst us) ∧ Paired (TpN H3) us Ls ∧ PcsP T how ps Ls left ∧ Ls.length + left.length ≤ ps.length ∧ mm = left.length, ⟨_, pl, none, none, none, none, [], [], ps, rfl, s2, hpl, nlo, hpl2, hpo2, .nil, PcsP.start, by simp, rfl⟩, ?_⟩
    rintro mm σ H3 ⟨p', v5, v6, v7, v8, us, Ls, left, rfl, s3, np', npo, hp3, ho3, pU, pc, lb, rfl⟩
    have lus := pU.length
    refine ⟨_, rfl, _, .inl ⟨_, SqL.of hp3, rfl⟩, ?_⟩
    cases left with
    | nil => exact iteF ⟨_, rfl, q po us Ls H3 s3 ho3 pU pc⟩
    | cons fst r =>
      refine iteT ?_
      refine ⟨fun σ' H' => ∃ (p' : Addr) (v5 v6 v7 v8 : Option V) (us : List V) (Ls : List (List Nat)) (left : List Nat), σ' = [some (.ref m), some (.ref a), some (.bl how), some (.ref p'), some (.ref po), v5, v6, v7, v8] ∧ Same H H' ∧ H p' = none ∧ p' ≠ po ∧ H' p' = some (.lst (left.map pI)) ∧ H' po = some (.lst us) ∧ Paired (TpN H') us Ls ∧ PcsP T how ps Ls left ∧ Ls.length + left.length ≤ ps.length ∧ left.length < (fst :: r).length, fun σ' H' ⟨a1, a2, a3, a4, a5, a6, a7, a8, e1, e2, e3, e4, e5, e6, e7, e8, e9, e10⟩ => ⟨_, e10, a1, a2, a3, a4, a5, a6, a7, a8, e1, e2, e3, e4, e5, e6, e7, e8, e9, rfl⟩, ?_⟩
      refine ⟨Nat.zero_le _, fun pp hpp => ?_⟩
      have x4 := same_laid (o := .lst []) hpp
      have hp4 := x4 _ _ hp3
      refine ⟨_, rfl, .inl ⟨rfl, _, SqL.of hp4⟩, p', _, 0, 0, pI fst, rfl, rfl, hp4, by decide, by decide, ?_, rfl, ?_⟩
      · rw [List.length_map, List.length_cons]
        simp [seqIndex?]
      rw [show ((fst :: r).map pI).eraseIdx 0 = r.map pI from rfl]
      have ppH : H pp = none := gone s3 hpp
      have n1 : pp ≠ p' := fun e => by rw [e, hp3] at hpp; cases hpp
      have n2 : pp ≠ po := fun e => by rw [e, ho3] at hpp; cases hpp
      have s4 : Same H (upd (upd H3 pp (.lst [])) p' (.lst (r.map pI))) := sPut (s3.trans x4) np'
      have k4 : KeepT H3 (upd (upd H3 pp (.lst [])) p' (.lst (r.map pI))) := (sKt x4).trans (KeepT.lst hp4)
      have hpp4 : (upd (upd H3 pp (.lst [])) p' (.lst (r.map pI))) pp = some (.lst []) := by rw [upd_ne n1]; exact upd_same
      have ho4 : (upd (upd H3 pp (.lst [])) p' (.lst (r.map pI))) po = some (.lst us) := by rw [upd_ne (Ne.symm npo)]; exact x4 _ _ ho3
      have hp4' : (upd (upd H3 pp (.lst [])) p' (.lst (r.map pI))) p' = some (.lst (r.map pI)) := upd_same
      generalize (upd (upd H3 pp (.lst [])) p' (.lst (r.map pI))) = H4 at s4 k4 hpp4 ho4 hp4'
      refine ⟨by show 1 ≤ sizeLine; decide, fun pn hpn => ⟨_, _, rfl, ?_⟩⟩
      have x5 := same_laid (o := .lst [pI fst]) hpn
      have pnH : H pn = none := gone s4 hpn
      have n3 : pn ≠ p' := fun e => by rw [e, hp4'] at hpn; cases hpn
      have n4 : pn ≠ po := fun e => by rw [e, ho4] at hpn; cases hpn
      have n5 : pn ≠ pp := fun e => by rw [e, hpp4] at hpn; cases hpn
      have s5 := s4.trans x5
      have k5 := k4.trans (sKt x5)
      have hpp5 := x5 _ _ hpp4
      have ho5 := x5 _ _ ho4
      have hp5 := x5 _ _ hp4'
      have hn5 : (upd H4 pn (.lst [pI fst])) pn = some (.lst [pI fst]) := upd_same
      have pU5 := pMono persTpN k5 pU
      generalize (upd H4 pn (.lst [pI fst])) = H5 at s5 hpp5 ho5 hp5 hn5 pU5
      refine ⟨fun mm σ H6 => ∃ (q' : Addr) (v7 v8 : Option V) (piece now left : List Nat), σ = [some (.ref m), some (.ref a), some (.bl how), some (.ref q'), some (.ref po), some (.ref pp), some (.ref pn), v7, v8] ∧ Same H H6 ∧ H q' = none ∧ q' ≠ po ∧ q' ≠ pp ∧ q' ≠ pn ∧ H6 q' = some (.lst (left.map pI)) ∧ H6 po = some (.lst us) ∧ H6 pp = some (.lst (piece.map pI)) ∧ H6 pn = some (.lst (now.map pI)) ∧ Paired (TpN H6) us Ls ∧ InnP T how (fst :: r) piece now left fst ∧ mm = now.length + left.length, ⟨_, p', v7, v8, [], [fst], r, rfl, s5, np', npo, Ne.symm n1, Ne.symm n3, hp5, ho5, hpp5, hn5, pU5, InnP.start, rfl⟩, ?_⟩
      rintro mm σ H6 ⟨q', w7, w8, piece, now, left, rfl, s6, nq', nqo, nqp, nqn, hq6, ho6, hpp6, hn6, pU6, ip, rfl⟩
      have lall := ip.pm.length_eq
      rw [List.length_append, List.length_append, List.length_cons] at lall
      rw [List.length_cons] at lb
      refine ⟨_, rfl, _, .inl ⟨_, SqL.of hn6, rfl⟩, ?_⟩
      by_cases en : now = []
      · subst en
        refine iteF ?_
        rw [List.length_nil, Nat.zero_add] at lall
        refine ⟨_, rfl, .inl ⟨rfl, _, SqL.of ho6⟩, _, rfl, pp, piece.map (fun x : Nat => (x : Int)), rfl, .inl (SqL.of (by rw [← map_pI]; exact hpp6)), fun as p7 pmA soA hp7 => ?_⟩
        obtain ⟨L, rfl, pL⟩ : ∃ L : List Nat, as = L.map (fun x : Nat => (x : Int)) ∧ L.Perm piece := by
          refine ⟨as.map Int.toNat, ?_, ?_⟩
          · rw [List.map_map]
            symm
            refine (List.map_congr_left fun z hz => ?_).trans (List.map_id _)
            obtain ⟨y, _, rfl⟩ := List.mem_map.mp (pmA.mem_iff.mp hz)
            rfl
          · have := pmA.map Int.toNat
            rw [List.map_map] at this
            have e : piece.map (Int.toNat ∘ fun x : Nat => (x : Int)) = piece := (List.map_congr_left fun z _ => rfl).trans (List.map_id _)
            rwa [e] at this
        have soL : L.Pairwise (· ≤ ·) := by
          rw [List.pairwise_map] at soA
          exact soA.imp fun h => Int.ofNat_le.mp h
        have x7 := same_laid (o := .lst ((L.map fun x : Nat => (x : Int)).map V.int)) hp7
        refine ⟨p7, _, rfl, .inl ⟨SqL.of upd_same, fun t8 ht8 => ?_⟩⟩
        have x8 := same_laid (o := .tup ((L.map fun x : Nat => (x : Int)).map V.int)) ht8
        have s8 := s6.trans (x7.trans x8)
        have ho8 := (x7.trans x8) _ _ ho6
        have hq8 := (x7.trans x8) _ _ hq6
        have pU8 := pMono persTpN (sKt (x7.trans x8)) pU6
        have ht8' : (upd (upd H6 p7 (.lst ((L.map fun x : Nat => (x : Int)).map V.int))) t8 (.tup ((L.map fun x : Nat => (x : Int)).map V.int))) t8 = some (.tup (L.map pI)) := by rw [upd_same, ← map_pI]
        generalize (upd (upd H6 p7 (.lst ((L.map fun x : Nat => (x : Int)).map V.int))) t8 (.tup ((L.map fun x : Nat => (x : Int)).map V.int))) = H8 at s8 ho8 hq8 pU8 ht8'
        refine ⟨po, us, _, rfl, rfl, ho8, sizeBig (by omega), ?_⟩
        have k9 : KeepT H8 (upd H8 po (.lst (us ++ [.ref t8]))) := KeepT.lst ho8
        refine ⟨q', _, _, _, _, us ++ [.ref t8], Ls ++ [L], left, rfl, sPut s8 poH, nq', nqo, by rw [upd_ne nqo]; exact hq8, upd_same, pApp (pMono persTpN k9 pU8) (.cons ⟨t8, rfl, k9 _ _ ht8'⟩ .nil), pc.step ip pL soL, ?_, ?_⟩
        · have := List.length_pos_of_mem (by have := ip.fm; rwa [List.append_nil] at this)
          rw [List.length_append, List.length_singleton]
          omega
        · have := List.length_pos_of_mem (by have := ip.fm; rwa [List.append_nil] at this)
          rw [List.length_cons]
          omega
      · obtain ⟨now0, x, rfl⟩ := pLastN en
        rw [show (!((now0 ++ [x]).map pI).isEmpty) = true by rw [List.map_append]; cases now0 <;> rfl]
        refine iteT ?_
        have hnowl : now0.length + 1 + left.length ≤ 40 := by
          rw [List.length_append, List.length_singleton] at lall
          omega
        have memL : ∀ y ∈ piece ++ ((now0 ++ [x]) ++ left), y < n := fun y hy => hlt y (pc.pm.mem_iff.mp (List.mem_append_right _ (ip.pm.mem_iff.mp hy)))
        have hxn : x < n := memL x (by simp)
        have hln : ∀ y ∈ left, y < n := fun y hy => memL y (by simp [hy])
        refine ⟨fun σ' H' => ∃ (q' : Addr) (v7 v8 : Option V) (piece now left' : List Nat), σ' = [some (.ref m), some (.ref a), some (.bl how), some (.ref q'), some (.ref po), some (.ref pp), some (.ref pn), v7, v8] ∧ Same H H' ∧ H q' = none ∧ q' ≠ po ∧ q' ≠ pp ∧ q' ≠ pn ∧ H' q' = some (.lst (left'.map pI)) ∧ H' po = some (.lst us) ∧ H' pp = some (.lst (piece.map pI)) ∧ H' pn = some (.lst (now.map pI)) ∧ Paired (TpN H') us Ls ∧ InnP T how (fst :: r) piece now left' fst ∧ now.length + left'.length < (now0 ++ [x]).length + left.length, fun σ' H' ⟨a1, a2, a3, a4, a5, a6, e1, e2, e3, e4, e5, e6, e7, e8, e9, e10, e11, e12, e13⟩ => ⟨_, e13, a1, a2, a3, a4, a5, a6, e1, e2, e3, e4, e5, e6, e7, e8, e9, e10, e11, e12, rfl⟩, ?_⟩
        have hn6' : H6 pn = some (.lst (now0.map pI ++ [pI x])) := by rw [hn6, List.map_append]; rfl
        refine ⟨_, rfl, .inl ⟨rfl, _, SqL.of hn6'⟩, pn, _, pI x, rfl, rfl, hn6', ?_, ?_⟩
        · rw [List.length_append, List.length_singleton, Nat.add_sub_cancel, List.getElem?_append_right (Nat.le_refl _), Nat.sub_self]
          rfl
        rw [List.dropLast_concat]
        have s7 : Same H (upd H6 pn (.lst (now0.map pI))) := sPut s6 pnH
        have k7 : KeepT H6 (upd H6 pn (.lst (now0.map pI))) := KeepT.lst hn6
        have hn7 : (upd H6 pn (.lst (now0.map pI))) pn = some (.lst (now0.map pI)) := upd_same
        have hpp7 : (upd H6 pn (.lst (now0.map pI))) pp = some (.lst (piece.map pI)) := by rw [upd_ne (Ne.symm n5)]; exact hpp6
        have ho7 : (upd H6 pn (.lst (now0.map pI))) po = some (.lst us) := by rw [upd_ne (Ne.symm n4)]; exact ho6
        have hq7 : (upd H6 pn (.lst (now0.map pI))) q' = some (.lst (left.map pI)) := by rw [upd_ne nqn]; exact hq6
        have pU7 := pMono persTpN k7 pU6
        generalize (upd H6 pn (.lst (now0.map pI))) = H7 at s7 hn7 hpp7 ho7 hq7 pU7
        refine ⟨_, rfl, .inl ⟨rfl, _, SqL.of hpp7⟩, _, rfl, pp, _, _, rfl, rfl, hpp7, by rw [List.length_map]; exact sizeBig (by omega), ?_⟩
        have s8 : Same H (upd H7 pp (.lst (piece.map pI ++ [pI x]))) := sPut s7 ppH
        have k8 : KeepT H7 (upd H7 pp (.lst (piece.map pI ++ [pI x]))) := KeepT.lst hpp7
        have hpp8 : (upd H7 pp (.lst (piece.map pI ++ [pI x]))) pp = some (.lst ((piece ++ [x]).map pI)) := by rw [upd_same, List.map_append]; rfl
        have hn8 : (upd H7 pp (.lst (piece.map pI ++ [pI x]))) pn = some (.lst (now0.map pI)) := by rw [upd_ne n5]; exact hn7
        have ho8 : (upd H7 pp (.lst (piece.map pI ++ [pI x]))) po = some (.lst us) := by rw [upd_ne (Ne.symm n2)]; exact ho7
        have hq8 : (upd H7 pp (.lst (piece.map pI ++ [pI x]))) q' = some (.lst (left.map pI)) := by rw [upd_ne nqp]; exact hq7
        have pU8 := pMono persTpN k8 pU7
        generalize (upd H7 pp (.lst (piece.map pI ++ [pI x]))) = H8 at s8 hn8 hpp8 ho8 hq8 pU8
        refine ⟨_, rfl, .inl ⟨rfl, _, SqL.of hn8⟩, _, rfl, q', rfl, ⟨_, SqL.of hq8⟩, fun D hD => ?_⟩
        refine comp_list (K := K) (us := left.map pI) (ds := left) persPt (fun y => if (T x y == how) = true then some y else none) persPt hD (SqL.of hq8) (by rw [List.length_map]; exact sizeBig (by omega)) (pairedPt _ _) ?_ ?_
        · rintro y yv H9 Yes No hy rfl s9 yes no
          refine ⟨rfl, ?_⟩
          refine rdM (hM.same (s8.trans s9)) rfl rfl rfl hxn (hln y hy) ⟨_, rfl, rfl, _, rfl, ?_⟩
          by_cases c : T x y = how
          · rw [decide_eq_true (show V.bl (T x y) = V.bl how by rw [c])]
            exact iteT ⟨_, rfl, yes y (if_pos (beq_iff_eq.mpr c)) _ _ (Same.refl _) rfl⟩
          · rw [decide_eq_false (fun h => c (V.bl.inj h))]
            exact iteF (no (if_neg (fun h => c (beq_iff_eq.mp h))) _ (Same.refl _))
        intro H9 ys s9 hD9 prs
        rw [fm_filt] at prs
        have eys := pairedPt_eq prs
        subst eys
        have s89 := s8.trans s9
        have hn9 := s9 _ _ hn8
        have nD : D ≠ pn := fun e => by rw [e, hn8] at hD; cases hD
        refine ⟨pn, D, _, _, rfl, rfl, hn9, hD9, ?_, ?_⟩
        · have := List.length_filter_le (fun y => T x y == how) left
          rw [List.length_map, List.length_map]
          exact Nat.le_of_lt (sizeBig (by omega))
        have s10 : Same H (upd H9 pn (.lst (now0.map pI ++ (left.filter fun y => T x y == how).map pI))) := sPut s89 pnH
        have k10 : KeepT H9 (upd H9 pn (.lst (now0.map pI ++ (left.filter fun y => T x y == how).map pI))) := KeepT.lst hn9
        have hn10 : (upd H9 pn (.lst (now0.map pI ++ (left.filter fun y => T x y == how).map pI))) pn = some (.lst ((now0 ++ left.filter fun y => T x y == how).map pI)) := by rw [upd_same, List.map_append]
        have hpp10 : (upd H9 pn (.lst (now0.map pI ++ (left.filter fun y => T x y == how).map pI))) pp = some (.lst ((piece ++ [x]).map pI)) := by rw [upd_ne (Ne.symm n5)]; exact s9 _ _ hpp8
        have ho10 : (upd H9 pn (.lst (now0.map pI ++ (left.filter fun y => T x y == how).map pI))) po = some (.lst us) := by rw [upd_ne (Ne.symm n4)]; exact s9 _ _ ho8
        have hq10 : (upd H9 pn (.lst (now0.map pI ++ (left.filter fun y => T x y == how).map pI))) q' = some (.lst (left.map pI)) := by rw [upd_ne nqn]; exact s9 _ _ hq8
        have pU10 := pMono persTpN ((sKt s9).trans k10) pU8
        generalize (upd H9 pn (.lst (now0.map pI ++ (left.filter fun y => T x y == how).map pI))) = H10 at s10 hn10 hpp10 ho10 hq10 pU10
        refine ⟨_, rfl, q', rfl, ⟨_, SqL.of hq10⟩, fun D2 hD2 => ?_⟩
        refine comp_list (K := K) (us := left.map pI) (ds := left) persPt (fun y => if (!(T x y == how)) = true then some y else none) persPt hD2 (SqL.of hq10) (by rw [List.length_map]; exact sizeBig (by omega)) (pairedPt _ _) ?_ ?_
        · rintro y yv H11 Yes No hy rfl s11 yes no
          refine ⟨rfl, ?_⟩
          refine rdM (hM.same (s10.trans s11)) rfl rfl rfl hxn (hln y hy) ⟨_, rfl, rfl, _, rfl, ?_⟩
          by_cases c : T x y = how
          · rw [decide_eq_true (show V.bl (T x y) = V.bl how by rw [c])]
            exact iteF (no (if_neg (by rw [beq_iff_eq.mpr c]; decide)) _ (Same.refl _))
          · rw [decide_eq_false (fun h => c (V.bl.inj h))]
            exact iteT ⟨_, rfl, yes y (if_pos (by rw [beq_eq_false_iff_ne.mpr c]; rfl)) _ _ (Same.refl _) rfl⟩
        intro H11 ys s11 hD11 prs
        rw [fm_filt] at prs
        have eys := pairedPt_eq prs
        subst eys
        have m1 : D2 ≠ po := fun e => by rw [e, ho10] at hD2; cases hD2
        have m2 : D2 ≠ pp := fun e => by rw [e, hpp10] at hD2; cases hD2
        have m3 : D2 ≠ pn := fun e => by rw [e, hn10] at hD2; cases hD2
        refine ⟨D2, _, _, piece ++ [x], now0 ++ left.filter (fun y => T x y == how), left.filter (fun y => !(T x y == how)), rfl, s10.trans s11, gone s10 hD2, m1, m2, m3, hD11, s11 _ _ ho10, s11 _ _ hpp10, s11 _ _ hn10, pMono persTpN (sKt s11) pU10, ip.step, ?_⟩
        have := (filter_part (fun y => T x y == how) left).length_eq
        rw [List.length_append] at this
        rw [List.length_append, List.length_append, List.length_singleton]
        omega
end
end Ns

/-! Own layer J: how many unlike ints a tuple has. -/
namespace Ns
open PySem PySem.Spec PyProof.Rows L2
theorem ints_are : ∀ {ns : List Int} {us : List Value}, Vals (ns.map V.int) us → IntsAre us ns
  | [], _, r => by
    cases r
    exact .nil
  | n :: ns, _, r => by
    cases r with
    | cons r1 r2 =>
      obtain ⟨t, rfl⟩ := r1
      exact .cons n t (ints_are r2)
/-- len(set(xs)), xs a tuple of ints -/
def tLenSetT (K : PySem.W.Frag) (ta : TE) : TE := fun σ H Q => ta σ H fun x H1 => ∃ (l : Addr) (ns : List Int), x = .ref l ∧ SqT K H1 l (ns.map V.int) ∧ ns.length ≤ 2000 ∧ ∀ es : List Int, es.Nodup → (∀ k, k ∈ es ↔ k ∈ ns) → Q (.int es.length) H1
theorem pe_lenSetT {X : Cx} {K : PySem.W.Frag} {a : Expr} {ta : TE} {p p2 q pos : Pos} (hK : X.K = K) (hc : X.calm = true) (hg : Gl X "len") (hm : X.mg "len" = none) (hg2 : Gl X "set") (hm2 : X.mg "set" = none) (ha : PE X a ta)
    (na : starEach [a] X.env = (false, eval a X.env) :: starEach [] X.env := by rfl) : PE X (.Call (.Name "len" p) [.Call (.Name "set" p2) [a] [] q] [] pos) (tLenSetT K ta) := by
  subst hK
  refine ⟨fun pins s σ H Q I h => ?_⟩
  refine Call_ (ld_blt I hg hm boot_len ?_)
  refine PyProof.Rows.callWith_builtin1 (PyProof.Rows.args_cons ?_ rfl) rfl rfl
  refine Call_ (ld_blt I hg2 hm2 boot_set ?_)
  refine PyProof.Rows.callWith_type1 (PyProof.Rows.args_cons (thn (ha.run pins s σ H _ I h) fun v s1 ⟨x, H1, I1, r1, q1⟩ => PyProof.Rows.args_nil ?_) na) na rfl
  obtain ⟨l, ns, rfl, hq, hn, q1⟩ := q1
  cases r1
  obtain ⟨its, r, pl, hz⟩ := I1.tuple hq
  have pl : s1.heap.IsTuple l its.toArray := pl
  refine call_set_tupI ns (I1.ok.hd hc) pl (by simpa using ints_are r) (by show ns.length + 1 < 4096; omega) fun h' tk c R hcn hk => ?_
  obtain ⟨o, es, ep, t, ho, hex, hd, g, nd, hmem, hb, hf, hsz, _⟩ := R
  have I2 : Inv X pins σ H1 { s1 with heap := h', toks := tk } := I1.kept hk
  refine PyProof.Rows.args_nil ?_
  have hl : (es.toList.map keyOf).length = es.size := by rw [List.length_map, Array.length_toList]
  refine call_len_set ho hex hd hf (by omega) ?_
  refine ⟨.int (es.toList.map keyOf).length, H1, I2.tok _, ⟨_, by rw [hl]⟩, ?_⟩
  exact q1 _ nd fun k => by rw [← hmem k]; simp
theorem pe_revLK {X : Cx} {K : PySem.W.Frag} {e : Expr} {te : TE} {k : Nat} {p1 p2 p3 pos : Pos} (hK : X.K = K) (he : PE X e te) :
    PE X (.Subscript e (.Slice none none (some (.UnaryOp .USub (.Constant (.int 1) k p1) p2)) p3) pos) (tRevL K te) := by
  subst hK
  exact pe_revL he
end Ns

/-! Own layer O: a tuple turned round by [::-1]. -/
namespace Ns
open PySem PySem.Spec PyProof.Rows L2 HT
section
variable {prog : Program} {w : World} {A : Around} {E : Value → Shared → Prop} {s : Shared}
theorem places_rev (n : Nat) : Builtin.Slice.slicePlaces ((n : Int) - 1) (-1) (-1) = n := by
  unfold Builtin.Slice.slicePlaces
  rw [if_neg (by omega)]
  show (if ((n : Int) - 1 > -1) then ((n : Int) - 1 - -1 - 1) / 1 + 1 else 0).toNat = n
  rw [Int.ediv_one]
  split <;> omega
theorem sliceApplied_rev {sl : Addr} {vl vu vs : Value} {n : Nat} {Q : Int × Int × Nat → Shared → Prop} (hs : s.heap.IsSliceOf sl vl vu vs) (pl : IsPart vl none) (pu : IsPart vu none) (ps : IsPart vs (some (-1)))
    (h : Q ((n : Int) - 1, -1, n) s) : wpAny (model prog w) A (Builtin.Slice.sliceApplied (.ref sl) (pure (n : Int))) Q E s := by
  obtain ⟨os, hos, hcs, hds⟩ := id hs
  unfold Builtin.Slice.sliceApplied Builtin.Slice.sliceFields
  refine wpAny_bind (wpAny_bind (wpAny_field hos hds (x := vl) rfl (wpAny_bind (wpAny_field hos hds (x := vu) rfl (wpAny_bind (wpAny_field hos hds (x := vs) rfl (wpAny_pure ?_)))))))
  refine wpAny_bind (slicePart_ ps ?_)
  show wpAny _ _ (if ((-1 : Int) == 0) = true then _ else _) _ _ s
  rw [if_neg (by decide)]
  refine wpAny_bind (slicePart_ pl (wpAny_bind (slicePart_ pu (wpAny_bind (wpAny_pure ?_)))))
  show wpAny _ _ (pure ((n : Int) - 1, (-1 : Int), Builtin.Slice.slicePlaces ((n : Int) - 1) (-1) (-1))) _ _ s
  rw [places_rev]
  exact wpAny_pure h
theorem fm_congr {α β : Type} {f g : α → Option β} : ∀ {l : List α}, (∀ x ∈ l, f x = g x) → l.filterMap f = l.filterMap g
  | [], _ => rfl
  | a :: r, h => by rw [List.filterMap_cons, List.filterMap_cons, h a (List.mem_cons_self ..), fm_congr fun x hx => h x (List.mem_cons_of_mem _ hx)]
theorem pick_rev (xs : Array Value) : ((List.range xs.size).filterMap fun (m : Nat) => xs[(((xs.size : Int) - 1) + (m : Int) * -1).toNat]?) = xs.toList.reverse := by
  have h : ((List.range xs.size).filterMap fun (m : Nat) => xs[(((xs.size : Int) - 1) + (m : Int) * -1).toNat]?) = (List.range xs.size).filterMap fun (m : Nat) => some (xs.toList.reverse.getD m .none) := by
    refine fm_congr fun m hm => ?_
    have hm := List.mem_range.mp hm
    have hr : xs.toList.reverse[m]? = xs[xs.size - 1 - m]? := by
      rw [List.getElem?_reverse (by rw [Array.length_toList]; exact hm), Array.length_toList, Array.getElem?_toList]
    rw [show (((xs.size : Int) - 1) + (m : Int) * -1).toNat = xs.size - 1 - m by omega, ← hr, List.getD_eq_getElem?_getD]
    have hl : m < xs.toList.reverse.length := by rw [List.length_reverse, Array.length_toList]; exact hm
    rw [List.getElem?_eq_getElem hl]
    rfl
  rw [h, List.filterMap_eq_map']
  refine List.ext_getElem? fun m => ?_
  rw [List.getElem?_map]
  by_cases hm : m < xs.size
  · rw [List.getElem?_range hm]
    have hl : m < xs.toList.reverse.length := by rw [List.length_reverse, Array.length_toList]; exact hm
    rw [List.getElem?_eq_getElem hl]
    show some (xs.toList.reverse.getD m .none) = _
    rw [List.getD_eq_getElem?_getD, List.getElem?_eq_getElem hl]
    rfl
  · rw [List.getElem?_eq_none_iff.mpr (by rw [List.length_range]; omega), List.getElem?_eq_none_iff.mpr (by rw [List.length_reverse, Array.length_toList]; omega)]
    rfl
theorem getItem_tuple_rev {t sl : Addr} {items : Array Value} {vl vu vs : Value} {Q : Value → Shared → Prop} (ht : IsTup s.heap t items) (hs : s.heap.IsSliceOf sl vl vu vs) (pl : IsPart vl none) (pu : IsPart vu none) (ps : IsPart vs (some (-1)))
    (h : Q (.ref s.heap.objs.size) { s with heap := s.heap.push { cls := .type "tuple", data := .seq items.toList.reverse.toArray } })
    (hsz : items.size ≤ sizeLine) : wpAny (model prog w) A (getItem (.ref t) (.ref sl)) Q E s := by
  have htake : sizeOk (.seq items.toList.reverse.toArray) := by
    show items.toList.reverse.toArray.size ≤ sizeLine
    rw [List.size_toArray, List.length_reverse, Array.length_toList]
    omega
  obtain ⟨os, hos, hcs, hds⟩ := id hs
  have hTs : s.TypeIs (.ref sl) "slice" := ⟨os, hos, hcs⟩
  unfold getItem
  try with_reducible refine wpAny_holding ?_
  first | refine wpAny_bind (wpAny_pure ?_) | skip
  refine wpAny_bind (wpAny_sequenceKey ht.typeIs (by decide) ?_)
  refine wpAny_bind (wpAny_callSpecial?_slot (name := Str.ofString "__getitem__") ht.typeIs PyProof.Rows.slot_tuple_getitem
    (wpAny_call_entry PyProof.Rows.slot_tuple_getitem ht.typeIs entry_tuple_getitem ?_ (args_tuple_getitem _ _)))
  show wpAny _ _ (Builtin.Tuple.tupleItemsOf (.ref t) >>= _) _ _ s
  refine wpAny_bind (tupleItemsOf_ ht ?_)
  refine wpAny_bind (wpAny_typeOf hTs ?_)
  rw [if_pos (by decide)]
  refine wpAny_bind (sliceApplied_rev hs pl pu ps ?_)
  have hno : ¬ ((((items.size : Int) - 1) == 0 && (-1 : Int) == 1 && items.size == items.size) = true) := by
    intro q
    rw [Bool.and_eq_true, Bool.and_eq_true] at q
    exact absurd q.1.2 (by decide)
  show wpAny _ _ (if ((((items.size : Int) - 1) == 0 && (-1 : Int) == 1 && items.size == items.size)) = true then _ else _) _ _ s
  rw [if_neg hno, pick_rev]
  first
    | exact wpAny_bind (m := Builtin.Tuple.tupleExact _) (wpAny_newObj_type (wpAny_pure ⟨_, rfl, wpAny_pure h⟩) htake)
    | exact wpAny_bind (m := Builtin.Tuple.tupleExact _) (wpAny_newObj_type (wpAny_bind (wpAny_pure (wpAny_pure ⟨_, rfl, wpAny_pure h⟩))) htake)
    | exact wpAny_bind (wpAny_bind (m := Builtin.Tuple.tupleExact _) (wpAny_newObj_type (wpAny_pure (wpAny_pure ⟨_, rfl, wpAny_pure h⟩)) htake))
    | exact wpAny_bind (wpAny_bind (m := Builtin.Tuple.tupleExact _) (wpAny_newObj_type (wpAny_pure ⟨_, rfl, wpAny_pure h⟩) htake))
end
def tRevT (K : PySem.W.Frag) (te : TE) : TE := fun σ H Q => te σ H fun x H1 => ∃ a xs, x = .ref a ∧ SqT K H1 a xs ∧ ∀ p, H1 p = none → Q (.ref p) (upd H1 p (.tup xs.reverse))
theorem pe_revT {X : Cx} {e : Expr} {te : TE} {k : Nat} {p1 p2 p3 pos : Pos} (he : PE X e te) : PE X (.Subscript e (.Slice none none (some (.UnaryOp .USub (.Constant (.int 1) k p1) p2)) p3) pos) (tRevT X.K te) := by
  refine ⟨fun pins s σ H Q I h => ?_⟩
  refine Subscript_ (thn (he.run pins s σ H _ I h) fun v s1 ⟨x, H1, I1, r1, q1⟩ => ?_)
  obtain ⟨a, xs, ex, hx, q⟩ := q1
  subst ex
  cases r1
  have hst : PO X (some (.UnaryOp .USub (.Constant (.int 1) k p1) p2)) (tPart (tUn (rU fun i => .int (-i)) (tC (.int 1)))) := po_some (pe_un un_neg pe_int)
  refine wpAny_Slice (thn (po_none.run pins s1 σ H1 (fun o H2 => o = none ∧ H2 = H1) I1 ⟨rfl, rfl⟩) fun vl s2 ⟨l, H2, I2, pl, el, e2⟩ => ?_)
  subst el e2
  refine thn (po_none.run pins s2 σ H2 (fun o H3 => o = none ∧ H3 = H2) I2 ⟨rfl, rfl⟩) fun vu s3 ⟨u, H3, I3, pu, eu, e3⟩ => ?_
  subst eu e3
  refine thn (hst.run pins s3 σ H3 (fun o H4 => o = some (-1) ∧ H4 = H3) I3 ⟨1, rfl, -1, rfl, rfl, rfl⟩) fun vs s4 ⟨o, H4, I4, ps, eo, e4⟩ => ?_
  subst eo e4
  have I5 : Inv X pins σ H4 { s4 with heap := s4.heap.push { cls := .type "slice", data := .fields #[vl, vu, vs] } } := I4.kept (t' := s4.toks) fun b ob q => Heap.get?_push_of_some _ q
  obtain ⟨its, r, ht, hz⟩ := I5.tuple hx
  have hlen : its.toArray.size = xs.length := by rw [List.size_toArray]; exact r.length.symm
  show wpAny (model X.prog X.w) X.A (subscriptTail e (.Slice none none (some (.UnaryOp .USub (.Constant (.int 1) k p1) p2)) p3) (.ref a) (.ref s4.heap.objs.size)) (EP X pins σ Q) X.xe { s4 with heap := s4.heap.push { cls := .type "slice", data := .fields #[vl, vu, vs] } }
  refine tail_any (ops := [.ref a, .ref s4.heap.objs.size]) ht.typeIs (PyProof.Rows.slot_tuple_getitem.lookup) ?_ (by with_unfolding_all rfl)
  refine getItem_tuple_rev ht (Heap.IsSliceOf.new _ vl vu vs) pl pu ps ?_ (by omega)
  refine ⟨.ref _, _, I5.laid (t' := s4.toks) (o := .tup xs.reverse) (fun b ob q => Heap.get?_push_of_some _ q) (Nat.le_refl _) ?_, rfl, q _ (I5.hok.fresh (Nat.le_refl _))⟩
  exact ⟨by rw [List.length_reverse]; exact hz, _, r.reverse, IsTup.new _ _⟩
theorem pe_revTK {X : Cx} {K : PySem.W.Frag} {e : Expr} {te : TE} {k : Nat} {p1 p2 p3 pos : Pos} (hK : X.K = K) (he : PE X e te) :
    PE X (.Subscript e (.Slice none none (some (.UnaryOp .USub (.Constant (.int 1) k p1) p2)) p3) pos) (tRevT K te) := by
  subst hK
  exact pe_revT he
end Ns

/-! Own layer F: dict(d), d a dict whose keys are pairs of small numbers. -/
namespace Ns
open PySem PySem.Spec PyProof.Rows L2
section
variable {prog : Program} {w : World} {K : Type} [DecidableEq K] {knd : HeapKind prog w K} {A : Around} {E : Value → Shared → Prop} {s : Shared}
theorem callDictH {o : Addr} {more : List (K × Addr × Value)} {Q : Value → Shared → Prop} (hu : knd.room A.in1.in1) (hoS : (o == sysModules) = false) (ho : s.heap.DictOfH knd o more)
    (hk : (s.heap.push { cls := .type "dict", data := .dict #[] }).DictOfH knd o more) (hnew : (s.heap.push { cls := .type "dict", data := .dict #[] }).DictOfH knd s.heap.objs.size [])
    (hty : ∀ x ∈ more, ({ s with heap := s.heap.push { cls := .type "dict", data := .dict #[] } } : Shared).TypeIs (.ref x.2.1) "tuple") (hap : (more.map fun x => knd.hash x.1).Nodup) (hsz : more.length ≤ sizeLine)
    (h : ∀ h', h'.DictOfH knd s.heap.objs.size more → Heap.SameBut s.heap.objs.size (s.heap.push { cls := .type "dict", data := .dict #[] }) h' → Q (.ref s.heap.objs.size) { s with heap := h' }) :
    wpAny (model prog w) A (call (.type "dict") [.ref o]) Q E s := by
  refine callType_codes (Q₁ := fun obj s₁ => obj = .ref s.heap.objs.size ∧ s₁ = { s with heap := s.heap.push { cls := .type "dict", data := .dict #[] } }) F.kt_called_dict (F.kt_typeCall_dict_1 _) F.entry_dict_init (kt_code_dict_new _ ⟨rfl, rfl⟩) ?_
  rintro obj s₁ ⟨rfl, rfl⟩
  have hn : (more.map (·.1)).Nodup := ho.nodup
  have hdo : s.heap.objs.size ≠ o := by
    obtain ⟨_, _, _, hg, _⟩ := ho
    exact fun e => absurd (Heap.lt_size hg) (by rw [e]; exact Nat.lt_irrefl _)
  refine ⟨hnew.typeIs, F.args_dict_init_2 _ _, ?_⟩
  unfold Builtin.«dict.__init__»
  refine wpAny_bind ?_
  unfold Builtin.Dict.selfAndRest
  refine wpAny_bind (wpAny_notOrdered_dict hnew.typeIs ?_)
  show wpAny _ _ (pure (s.heap.objs.size, [Value.ref o])) _ _ _
  refine wpAny_pure ?_
  show wpAny _ _ (Builtin.Dict.updateFrom "dict.__init__" s.heap.objs.size (.ref o) [] .none) _ _ _
  unfold Builtin.Dict.updateFrom
  refine wpAny_bind (wpAny_typeOf hk.typeIs ?_)
  rw [if_neg (by decide)]
  refine wpAny_bind ?_
  unfold Builtin.Dict.merge
  refine wpAny_bind ?_
  unfold Builtin.Dict.readDirectly
  refine wpAny_bind (wpAny_isInstance hk.typeIs isSubtype_dict_dict ?_)
  simp only [Bool.not_true, Bool.false_eq_true, if_false]
  refine wpAny_bind (wpAny_specialOf hk.typeIs F.slot_dict_iter.lookup (wpAny_pure ?_))
  simp only [beq_self_eq_true, if_true]
  refine wpAny_bind (wpAny_pure ?_)
  refine wpAny_mergeDict_heap (hsz := by simpa using hsz) hu hdo hoS hnew hk (.inr ⟨hty, hap⟩) fun h' hd' _ hs' => ?_
  show wpAny _ _ (Builtin.Dict.addKeywords s.heap.objs.size [] >>= _) _ _ _
  rw [storedAllH_nil_of_nodup more hn] at hd'
  exact wpAny_bind (wpAny_pure (wpAny_pure ⟨rfl, h h' hd' hs'⟩))
end
def hashP (p : Nat × Nat) : Int := reduceHash (Builtin.Tuple.tupleHashOf [hashInt (p.1 : Int), hashInt (p.2 : Int)])
theorem hash_apart : ∀ p ∈ square 9, ∀ q ∈ square 9, hashP p = hashP q → p = q := by decide +kernel
theorem hash_nodup {ks : List (Nat × Nat)} (hn : ks.Nodup) (h : ∀ k ∈ ks, k.1 < 9 ∧ k.2 < 9) : (ks.map hashP).Nodup := by
  rw [List.Nodup, List.pairwise_map]
  refine List.Pairwise.imp_of_mem (fun {a b} ha hb ne e => ne (hash_apart a (mem_square (h a ha)) b (mem_square (h b hb)) e)) hn
theorem call_dictDT {X : Cx} (hu : X.A.units + 2 < cLine) : CallR X (.type "dict") (fun xs H Q => ∃ (a : Addr) (kvs : DT) (n : Nat), xs = [.ref a] ∧ Rd H a (.dT kvs) ∧ KeysIn n kvs ∧ n ≤ 9 ∧ ∀ p, H p = none → Q (.ref p) (upd H p (.dT kvs))) := by
  intro pins s σ H xs us Q I r q
  obtain ⟨a, kvs, n, ex, hd, ki, hn, q⟩ := q
  subst ex
  obtain ⟨u, eu, rx⟩ := vals1 r
  subst eu
  cases rx
  obtain ⟨z, lo, vs, rel, dd⟩ := dt_rd I.hok hd
  obtain ⟨ks, hk1, hk2, hk3⟩ := ki
  have hm : (s.heap.objs.size == sysModules) = false := beq_eq_false_iff_ne.mpr (Nat.ne_of_gt I.big)
  have keyM : ∀ {l : DT} {m : List (List Key × Addr × Value)}, KT H l m → m.map (·.1) = l.map (·.1) := by
    intro l m q
    induction q with
    | nil => rfl
    | cons p t ih => rw [List.map_cons, List.map_cons, ih, p.1]
  have ek : vs.map (·.1) = ks.map key := (keyM rel).trans hk1
  have hap : (vs.map fun x => (tupleKind (mixKind X.prog X.w)).hash x.1).Nodup := by
    have e : (vs.map fun x => (tupleKind (mixKind X.prog X.w)).hash x.1) = ks.map hashP := by
      have e1 : (vs.map fun x => (tupleKind (mixKind X.prog X.w)).hash x.1) = (vs.map (·.1)).map (tupleKind (mixKind X.prog X.w)).hash := by rw [List.map_map]; rfl
      rw [e1, ek, List.map_map]
      rfl
    rw [e]
    exact hash_nodup hk3 fun k hk => by
      have := hk2 k hk
      omega
  have hpush : ∀ b o, s.heap.get? b = some o → (s.heap.push { cls := .type "dict", data := .dict #[] }).get? b = some o := fun b o e => Heap.get?_push_of_some _ e
  have isK : ∀ h', (∀ b o, s.heap.get? b = some o → h'.get? b = some o) → ∀ x ∈ vs, (tupleKind (mixKind X.prog X.w)).is h' x.1 x.2.1 := fun h' hh x hx => by
    have hok : HOk X.prog X.w H h' := fun b ob e => (I.hok b ob e).stay (fun c u _ e2 => hh c u e2) (fun _ q => q) (fun _ _ q => q)
    obtain ⟨kv, hkv, e1, e2, _⟩ := pMem rel hx
    rw [← e1]
    exact key_of hok e2
  obtain ⟨o, es, ep, d1, d2, d3, d4, d5, d6⟩ := id dd
  refine callDictH (knd := tupleKind (mixKind X.prog X.w)) (by show X.A.units + 1 + 1 < cLine; omega) lo dd ⟨o, es, ep, hpush _ _ d1, d2, d3, d4, isK _ hpush, d6⟩ ?_ ?_ hap (by rw [← Paired.length rel]; exact z) fun h' d' hs => ?_
  · exact ⟨_, _, _, Heap.get?_push_size _ rfl, ⟨rfl, rfl, rfl⟩, rfl, rfl, (fun x hx => nomatch hx), List.nodup_nil⟩
  · intro x hx
    obtain ⟨kv, hkv, e1, e2, _⟩ := pMem rel hx
    obtain ⟨_, its, _, o2, h1, h2, _⟩ := (show ObjOk X.prog X.w H s.heap x.2.1 (.tup (kv.1.map kV)) from I.hok _ _ e2)
    exact ⟨o2, hpush _ _ h1, h2⟩
  · obtain ⟨o2, es2, ep2, g1, g2, g3, g4, _, g6⟩ := d'
    have hfr := I.hok.fresh (a := s.heap.objs.size) (Nat.le_refl _)
    refine ⟨.ref s.heap.objs.size, upd H s.heap.objs.size (.dT kvs), I.laid (t' := s.toks) (fun b u e => (hs.2 b (Nat.ne_of_lt (Heap.lt_size e))).trans (hpush _ _ e)) (Nat.le_refl _)
      (show ObjOk X.prog X.w _ _ _ (.dT kvs) from ⟨z, hm, vs, ?_, o2, es2, ep2, g1, g2, g3, g4, g6⟩), rfl, q _ hfr⟩
    exact rel.keeps fun b ys e => by
      rw [upd_ne (ne_of_none e hfr)]
      exact e
theorem hu2 {A : Around} {k : Nat} (hr : Room k A) : A.units + 2 < cLine := by
  have := hr.un
  omega
theorem lookup_rel {env : Env} : ∀ {names : List (Str × NameKind)} {x : Str}, names.lookup x = some .cell ∨ names.lookup x = some .free →
    (names.map fun (n, k) => if (k == NameKind.free && env.scope.kind == .function && env.kindOf n == some .cell) then (n, NameKind.cell) else (n, k)).lookup x = some .cell ∨
    (names.map fun (n, k) => if (k == NameKind.free && env.scope.kind == .function && env.kindOf n == some .cell) then (n, NameKind.cell) else (n, k)).lookup x = some .free
  | [], _, h => by simp at h
  | (n, k) :: r, x, h => by
    have ih := @lookup_rel env r x
    show List.lookup x ((if (k == NameKind.free && env.scope.kind == .function && env.kindOf n == some .cell) = true then (n, NameKind.cell) else (n, k)) :: _) = _ ∨ List.lookup x ((if (k == NameKind.free && env.scope.kind == .function && env.kindOf n == some .cell) = true then (n, NameKind.cell) else (n, k)) :: _) = _
    cases hx : x == n with
    | true =>
      simp only [List.lookup_cons, hx] at h
      by_cases hc : (k == NameKind.free && env.scope.kind == .function && env.kindOf n == some .cell) = true
      · rw [if_pos hc]
        exact .inl (by simp [List.lookup_cons, hx])
      · rw [if_neg hc]
        simp only [List.lookup_cons, hx]
        exact h
    | false =>
      simp only [List.lookup_cons, hx] at h
      by_cases hc : (k == NameKind.free && env.scope.kind == .function && env.kindOf n == some .cell) = true
      · rw [if_pos hc]; simp only [List.lookup_cons, hx]; exact ih h
      · rw [if_neg hc]; simp only [List.lookup_cons, hx]; exact ih h
/-- a comprehension within a comprehension -/
theorem blkOk_rel {N : List Str} {sc scope : Scope} {env : Env} {own : List (Str × Nat)} (b : BlkOk N sc scope own) : BlkOk N (relabel sc env) scope own :=
  ⟨b.kind, b.uniq, b.ix, fun y hy e => lookup_rel (b.free y hy e), b.own⟩
end Ns

/-! Own layer: the smallest alike set with two points; the greatest alike sets but the whole. -/
--REL _alike_with
namespace Ns
open PySem PySem.Spec PyProof.Rows L2
local macro_rules | `(tactic| walk_at "look") => `(tactic| first | assumption | exact upd_same | (refine (upd_ne (by first | assumption | exact Ne.symm (by assumption))).trans ?_; walk_at "look"))
local macro_rules | `(tactic| walk_at "cond") => `(tactic| first | assumption | omega | (dsimp only; omega) | exact ⟨by omega, by omega⟩ | decide | exact ⟨by decide, by decide, by decide⟩ | exact .inr ⟨by decide, by decide⟩ | exact .inl ⟨by decide, by decide⟩ | exact .inr ⟨by omega, by omega⟩ | exact .inl ⟨by omega, by omega⟩)
local macro_rules | `(tactic| walk_at "rd1") => `(tactic| first
  | refine ⟨_, rfl, ?_⟩
  | refine ⟨_, _, rfl, rfl, ?_⟩
  | refine ⟨rfl, ?_⟩
  | refine ⟨_, _, rfl, rfl, (by walk_at "cond"), ?_⟩
  | refine ⟨_, _, _, _, rfl, rfl, SqL.of (by walk_at "look"), rfl, ?_⟩
  | refine ⟨_, _, _, _, rfl, rfl, SqT.of (by walk_at "look"), rfl, ?_⟩
  | refine ⟨_, _, _, _, rfl, rfl, (by walk_at "look"), rfl, ?_⟩
  | refine .inl ⟨_, rfl, ?_⟩
  | refine ⟨.inl ⟨rfl, _, SqL.of (by walk_at "look")⟩, ?_⟩
  | refine ⟨_, _, rfl, ⟨by omega, by omega, by omega, by omega⟩, ?_⟩
  | refine ⟨_, rfl, (by omega), (by omega), ?_⟩
  | refine And.intro (by walk_at "cond") ?_)
local macro_rules | `(tactic| walk_at "rd") => `(tactic| repeat (walk_at "rd1"))

abbrev N_alike_with : List Str := ["tied", "points", "x", "y", "many", "left", "more", "z", "new"]
theorem sc_alike_with : FnScope N_alike_with ["tied", "points", "x", "y"] (defScope s_alike_with) := ⟨rfl, rfl, rfl, by decide +kernel, rfl, by decide +kernel, by decide +kernel⟩
abbrev N_greatest_alike : List Str := ["tied", "points", "left", "out", "x", "piece", "y"]
theorem sc_greatest_alike : FnScope N_greatest_alike ["tied", "points"] (defScope s_greatest_alike) := ⟨rfl, rfl, rfl, by decide +kernel, rfl, by decide +kernel, by decide +kernel⟩
section
variable {P : Program} {w : World} {K : PySem.W.Frag} {mg : Str → Option Value} {base : Heap}
def sp_alike_with (K : PySem.W.Frag) : Sp := fun vs H Q _ => ∃ (m a : Addr) (rows : List Addr) (n : Nat) (T : Tm) (ps : List Nat) (x y : Nat), vs = [.ref m, .ref a, pI x, pI y] ∧ Mat H m rows n T ∧ SqT K H a (ps.map pI) ∧ (∀ x ∈ ps, x < n) ∧ ps.length ≤ 40 ∧ ps.Nodup ∧ x ∈ ps ∧ y ∈ ps ∧ x ≠ y ∧ ∀ (k : Nat) H', Same H H' → (k < ps.length ↔ Sib T ps x y) → Q (pI k) H'
theorem cal_alike_with (A : At K mg "_alike_with" s_alike_with) (B : Bi mg) : Cal P w K mg base 1 "_alike_with" (sp_alike_with K) := by
  have nd := sc_alike_with.nd
  refine A.cal sc_alike_with (fun _ _ _ _ _ _ us hl => match us, hl with | [_, _, _, _], _ => rfl) ?_ fun f cdv A' outer s H vs Q E hr h => ⟨_, (pss_cons (ps_set (i := 4) nd rfl (.inl rfl) pe_int)
  (pss_cons (ps_setLc (i := 5) (own := [("z", 7)]) rfl nd rfl rfl (sw_true rfl rfl rfl (by decide +kernel)) (pi_tupK (K := K) rfl (pv 1)) (blkOk_by (own := [("z", 7)]) (N := N_alike_with) (sc := defScope s_alike_with) (by decide +kernel)) (fun _ _ _ _ _ => (pg_name (i := 7) nd rfl (.inl rfl) (.inr rfl))) (fun _ _ _ _ _ => (pts_one (pt_cmpR (op_notIn_seqK (K := K) rfl) (pv 7) (pe_tup (pa_cons (pv 2) (pa_cons (pv 3) pa_nil))) rfl))) (fun _ _ _ _ _ => (pv 7)))
  (pss_cons (ps_set (i := 6) nd rfl (.inr rfl) (pe_lc (own := [("z", 7)]) rfl nd (pi_listK (K := K) rfl (pv 5)) (blkOk_by (own := [("z", 7)]) (N := N_alike_with) (sc := defScope s_alike_with) (by decide +kernel)) (fun _ _ _ _ _ => (pg_name (i := 7) nd rfl (.inl rfl) (.inr rfl))) (fun _ _ _ _ _ => (pts_one (pt_cmpR op_ne (pe_ix (ix_listK (K := K) rfl) (pe_ix (ix_listK (K := K) rfl) (pv 0) (pv 7) (fun _ _ => rfl)) (pv 3) (fun _ _ => rfl)) (pe_ix (ix_listK (K := K) rfl) (pe_ix (ix_listK (K := K) rfl) (pv 0) (pv 7) (fun _ _ => rfl)) (pv 2) (fun _ _ => rfl)) (nomark _)))) (fun _ _ _ _ _ => (pv 7))))
  (pss_cons (ps_while passOwn (pt_truthK (K := K) rfl (pv 6) (by intro _; rfl)) (pss_cons (ps_set (i := 4) nd rfl (.inl rfl) (pe_op op_add (pv 4) (pe_callB (call_lenK (K := K) rfl) (by rfl) B.len (by decide +kernel) (pa_cons (pv 6) pa_nil))))
  (pss_cons (ps_setLc (i := 5) (own := [("z", 7)]) rfl nd rfl rfl (sw_true rfl rfl rfl (by decide +kernel)) (pi_listK (K := K) rfl (pv 5)) (blkOk_by (own := [("z", 7)]) (N := N_alike_with) (sc := defScope s_alike_with) (by decide +kernel)) (fun _ _ _ _ _ => (pg_name (i := 7) nd rfl (.inl rfl) (.inr rfl))) (fun _ _ _ _ _ => (pts_one (pt_cmpR (op_notIn_seqK (K := K) rfl) (pv 7) (pv 6) rfl))) (fun _ _ _ _ _ => (pv 7)))
  (pss_one (ps_set (i := 6) nd rfl (.inr rfl) (pe_lc (own := [("z", 7)]) rfl nd (pi_listK (K := K) rfl (pv 5)) (blkOk_by (own := [("z", 7)]) (N := N_alike_with) (sc := defScope s_alike_with) (by decide +kernel)) (fun _ _ _ _ _ => (pg_name (i := 7) nd rfl (.inr rfl) (.inl rfl))) (fun _ _ _ _ _ => (pts_one (pt_val (pe_callB (cr_anyK (K := K) rfl rfl) (by rfl) B.any (by decide +kernel) (pa_cons (pe_lc (own := [("new", 8)]) rfl nd (pi_listK (K := K) rfl (pv 6)) (blkOk_rel (N := N_alike_with) (blkOk_by (own := [("new", 8)]) (by decide +kernel))) (fun _ _ _ _ _ => (pg_name (i := 8) nd rfl (.inl rfl) (.inr rfl))) (fun _ _ _ _ _ => pts_nil) (fun _ _ _ _ _ => (pe_cmpR op_ne (pe_ix (ix_listK (K := K) rfl) (pe_ix (ix_listK (K := K) rfl) (pv 0) (pv 7) (fun _ _ => rfl)) (pv 8) (fun _ _ => rfl)) (pe_ix (ix_listK (K := K) rfl) (pe_ix (ix_listK (K := K) rfl) (pv 0) (pv 7) (fun _ _ => rfl)) (pv 2) (fun _ _ => rfl)) (nomark _)))) pa_nil))))) (fun _ _ _ _ _ => (pv 7))))))))
  (pss_one (ps_ret (pv 4))))))), ?_⟩
  · rintro vs H Q E ⟨m, a, rows, n, T, ps, x, y, rfl, _⟩
    rfl
  · obtain ⟨m, a, rows, n, T, ps, x, y, rfl, hM, hs, hlt, hl, ndp, hx, hy, hxy, q⟩ := h
    refine ⟨_, rfl, a, rfl, ⟨_, hs⟩, fun D hD => ?_⟩
    refine comp_filtT (K := K) (fun z => !decide (z ∈ [x, y])) hD hs (by omega) ?_ ?_
    · rintro z H1 Yes No hz s1 yes no
      walk_at "rd"
      refine ⟨by show 2 ≤ sizeLine; decide, fun t ht => ⟨t, _, rfl, .inr (SqT.of upd_same), rfl, rfl, ?_⟩⟩
      have x1 := same_laid (o := .tup [pI x, pI y]) ht
      rw [show inV (pI z) [pI x, pI y] = decide (z ∈ [x, y]) from inVC z [x, y]]
      refine ⟨_, rfl, ifB (fun c => ⟨_, rfl, yes c _ x1⟩) (fun c => no c _ x1)⟩
    intro H1 s1 hD1
    have st := AlW.start (T := T) hx hy
    have stl := start_len ndp hx hy hxy
    have hsub : ∀ z ∈ (ps.filter fun z => !decide (z ∈ [x, y])), z < n := fun z hz => hlt z (List.mem_filter.mp hz).1
    have hlen := List.length_filter_le (fun z => !decide (z ∈ [x, y])) ps
    generalize (ps.filter fun z => !decide (z ∈ [x, y])) = left0 at hD1 st stl hsub hlen
    refine ⟨_, rfl, D, rfl, ⟨_, SqL.of hD1⟩, fun D2 hD2 => ?_⟩
    refine comp_filtL (K := K) (fun z => T z y != T z x) hD2 (SqL.of hD1) (by omega) ?_ ?_
    · rintro z H2 Yes No hz s2 yes no
      refine ⟨rfl, ?_⟩
      refine rdM (hM.same (s1.trans s2)) rfl rfl rfl (hsub z hz) (hlt y hy) (rdM (hM.same (s1.trans s2)) rfl rfl rfl (hsub z hz) (hlt x hx) ⟨rfl, _, rfl, ?_⟩)
      refine ifN (fun c => ⟨_, rfl, yes ?_ _ (Same.refl _)⟩) (fun c => no ?_ _ (Same.refl _))
      · rw [bne_iff_ne]
        exact fun e => of_decide_eq_false c (congrArg V.bl e)
      · rw [bne_eq_false_iff_eq]
        exact V.bl.inj (of_decide_eq_true c)
    intro H2 s2 hD22
    have hD1' := s2 _ _ hD1
    have s12 := s1.trans s2
    refine ⟨fun mm σ H3 => ∃ (d1 d2 : Addr) (left more : List Nat), σ = [some (.ref m), some (.ref a), some (pI x), some (pI y), some (pI (ps.length - left.length)), some (.ref d1), some (.ref d2), none, none] ∧ Same H H3 ∧ H3 d1 = some (.lst (left.map pI)) ∧ H3 d2 = some (.lst (more.map pI)) ∧ AlW T ps x y left more ∧ mm = left.length,
      ⟨_, D, D2, left0, _, ?_, s12, hD1', hD22, st, rfl⟩, ?_⟩
    · rw [show ps.length - left0.length = 2 by omega]
      rfl
    rintro mm σ H3 ⟨d1, d2, left, more, rfl, s3, h1, h2, al, rfl⟩
    have hsubl : ∀ z ∈ left, z < n := fun z hz => hlt z (al.sub.subset hz)
    have lenl := al.sub.length_le
    refine ⟨_, rfl, _, .inl ⟨_, SqL.of h2, rfl⟩, ?_⟩
    by_cases em : more = []
    · subst em
      refine iteF ⟨_, rfl, q _ H3 s3 ?_⟩
      rw [← al.done hx hy]
      constructor
      · intro hk e
        subst e
        rw [List.length_nil] at hk
        omega
      · intro hk
        have := List.length_pos_iff.mpr hk
        omega
    rw [show (!(more.map pI).isEmpty) = true by cases more with
      | nil => exact absurd rfl em
      | cons _ _ => rfl]
    refine iteT ?_
    have moreS : more.Sublist left := by
      obtain ⟨q, e⟩ := al.mo
      rw [e]
      exact List.filter_sublist
    have lenm := moreS.length_le
    have al2 := al.step hx
    have ll := al.len ndp
    have mpos := List.length_pos_iff.mpr em
    refine ⟨fun σ' H' => ∃ (d1 d2 : Addr) (left' more' : List Nat), σ' = [some (.ref m), some (.ref a), some (pI x), some (pI y), some (pI (ps.length - left'.length)), some (.ref d1), some (.ref d2), none, none] ∧ Same H H' ∧ H' d1 = some (.lst (left'.map pI)) ∧ H' d2 = some (.lst (more'.map pI)) ∧ AlW T ps x y left' more' ∧ left'.length < left.length, fun σ' H' ⟨d1, d2, l, mo, e1, e2, e3, e4, e5, e6⟩ => ⟨_, e6, d1, d2, l, mo, e1, e2, e3, e4, e5, rfl⟩, ?_⟩
    refine ⟨_, rfl, _, rfl, _, _, rfl, .inl ⟨_, SqL.of h2, rfl⟩, _, _, rfl, rfl, ?_⟩
    rw [List.length_map]
    refine ⟨_, rfl, d1, rfl, ⟨_, SqL.of h1⟩, fun E1 hE1 => ?_⟩
    refine comp_filtL (K := K) (fun z => !decide (z ∈ more)) hE1 (SqL.of h1) (by omega) ?_ ?_
    · rintro z H4 Yes No hz s4 yes no
      walk_at "rd"
      refine ⟨d2, _, rfl, .inl (SqL.of (s4 _ _ h2)), rfl, flatC more, ?_⟩
      rw [show inV (pI z) (more.map pI) = decide (z ∈ more) from inVC z more]
      refine ⟨_, rfl, ifB (fun c => ⟨_, rfl, yes c _ (Same.refl _)⟩) (fun c => no c _ (Same.refl _))⟩
    intro H4 s4 hE4
    have h24 := s4 _ _ h2
    have lenf : (left.filter fun z => !decide (z ∈ more)).length ≤ 40 := by omega
    have hsub2 : ∀ z ∈ (left.filter fun z => !decide (z ∈ more)), z < n := fun z hz => hsubl z (List.mem_filter.mp hz).1
    generalize (left.filter fun z => !decide (z ∈ more)) = left2 at hE4 al2 ll lenf hsub2
    refine ⟨_, rfl, E1, rfl, ⟨_, SqL.of hE4⟩, fun E2 hE2 => ?_⟩
    refine comp_filtL (K := K) (fun z => more.any fun w => T z w != T z x) hE2 (SqL.of hE4) (by omega) ?_ ?_
    · rintro z H5 Yes No hz s5 yes no
      refine ⟨rfl, ?_⟩
      have hM5 := hM.same (s3.trans (s4.trans s5))
      refine ⟨_, rfl, d2, rfl, ⟨_, SqL.of (s5 _ _ h24)⟩, fun F1 hF1 => ?_⟩
      refine comp_list (K := K) (β := Bool) persPt (fun w : Nat => some (T z w != T z x)) (R := fun _ v b => v = .bl b) (fun _ _ _ _ _ h => h) hF1 (SqL.of (s5 _ _ h24)) (by rw [List.length_map]; exact sizeBig (by omega)) (pairPtC _ _) ?_ ?_
      · rintro w wv H6 Yes2 No2 hw rfl s6 yes2 no2
        refine ⟨rfl, ?_⟩
        have hM6 := hM5.same s6
        have hwn := hsubl w (moreS.subset hw)
        refine rdM hM6 rfl rfl rfl (hsub2 z hz) hwn (rdM hM6 rfl rfl rfl (hsub2 z hz) (hlt x hx) ⟨rfl, yes2 _ rfl _ _ (Same.refl _) ?_⟩)
        refine congrArg V.bl ?_
        cases T z w <;> cases T z x <;> rfl
      · intro H6 ys s6 hy6 pr6
        have e6 : ys = (more.map fun w => T z w != T z x).map V.bl := by
          rw [show (more.filterMap fun w => some (T z w != T z x)) = more.map (fun w => T z w != T z x) from congrFun (List.filterMap_eq_map (f := fun w : Nat => T z w != T z x)) more] at pr6
          exact bools_eqC pr6
        subst e6
        refine ⟨F1, _, rfl, SqL.of hy6, _, rfl, ?_⟩
        rw [List.any_map, show (id ∘ fun w => T z w != T z x) = fun w => T z w != T z x from rfl]
        exact ifB (fun c => ⟨_, rfl, yes c _ s6⟩) (fun c => no c _ s6)
    intro H5 s5 hE5
    refine ⟨E1, E2, left2, _, ?_, s3.trans (s4.trans s5), s5 _ _ hE4, hE5, al2, by omega⟩
    rw [show pI (ps.length - left2.length) = V.int (((ps.length - left.length : Nat) : Int) + (more.length : Nat)) from congrArg V.int (by omega)]
    rfl
def sp_greatest (K : PySem.W.Frag) : Sp := fun vs H Q _ => ∃ (m a : Addr) (rows : List Addr) (n : Nat) (T : Tm) (ps : List Nat), vs = [.ref m, .ref a] ∧ Mat H m rows n T ∧ SqT K H a (ps.map pI) ∧ (∀ x ∈ ps, x < n) ∧ ps.length ≤ 40 ∧ ps.Pairwise (· < ·) ∧ 2 ≤ ps.length ∧ SyT T ∧ ¬ Cutt T true ps ∧ ¬ Cutt T false ps ∧
  ∀ (r : Addr) (us : List V) (Ls : List (List Nat)) H', Same H H' → H' r = some (.lst us) → Paired (TpN H') us Ls → GrI T ps Ls [] → Q (.ref r) H'
theorem cal_greatest (A : At K mg "_greatest_alike" s_greatest_alike) (B : Bi mg) (c_alike_with : Cal P w K mg base 1 "_alike_with" (sp_alike_with K)) : Cal P w K mg base 2 "_greatest_alike" (sp_greatest K) := by
  have nd := sc_greatest_alike.nd
  refine A.cal sc_greatest_alike (fun _ _ _ _ _ _ us hl => match us, hl with | [_, _], _ => rfl) ?_ fun f cdv A' outer s H vs Q E hr h => ⟨_, (pss_cons (ps_set (i := 2) nd rfl (.inl rfl) (pe_callTy (call_list_ofK (K := K) rfl) (by rfl) B.list (by decide +kernel) (pa_cons (pv 1) pa_nil)))
  (pss_cons (ps_set (i := 3) nd rfl (.inl rfl) (pe_lst pa_nil))
  (pss_cons (ps_while passOwn (pt_truthK (K := K) rfl (pv 2) (by intro _; rfl)) (pss_cons (ps_set (i := 4) nd rfl (.inr rfl) (pe_ix (ix_listK (K := K) rfl) (pv 2) pe_int (fun _ _ => rfl)))
  (pss_cons (ps_set (i := 5) nd rfl (.inr rfl) (pe_lc (own := [("y", 6)]) rfl nd (pi_listK (K := K) rfl (pv 2)) (blkOk_by (own := [("y", 6)]) (N := N_greatest_alike) (sc := defScope s_greatest_alike) (by decide +kernel)) (fun _ _ _ _ _ => (pg_name (i := 6) nd rfl (.inl rfl) (.inr rfl))) (fun _ _ _ _ _ => (pts_one (PW.pt (pw_or (pt_cmpR op_eq (pv 6) (pv 4) (nomark _)) (pw_or1 (pt_cmpR op_lt (pe_cal c_alike_with hr (by first | decide | omega) (by rfl) passL (pa_cons (pv 0) (pa_cons (pv 1) (pa_cons (pv 4) (pa_cons (pv 6) pa_nil))))) (pe_callB (call_lenK (K := K) rfl) (by rfl) B.len (by decide +kernel) (pa_cons (pv 1) pa_nil)) (nomark _))))))) (fun _ _ _ _ _ => (pv 6))))
  (pss_cons (ps_setLc (i := 2) (own := [("y", 6)]) rfl nd rfl rfl (sw_true rfl rfl rfl (by decide +kernel)) (pi_listK (K := K) rfl (pv 2)) (blkOk_by (own := [("y", 6)]) (N := N_greatest_alike) (sc := defScope s_greatest_alike) (by decide +kernel)) (fun _ _ _ _ _ => (pg_name (i := 6) nd rfl (.inl rfl) (.inr rfl))) (fun _ _ _ _ _ => (pts_one (pt_cmpR (op_notIn_seqK (K := K) rfl) (pv 6) (pv 5) rfl))) (fun _ _ _ _ _ => (pv 6)))
  (pss_one (ps_expr (pe_bm PySem.F.plainAttrs_list PySem.F.slot_list_append PySem.F.type_list_append mt_append (pv 3) (pa_cons (pe_callTy (call_tuple_ofK (K := K) rfl) (by rfl) B.tuple (by decide +kernel) (pa_cons (pv 5) pa_nil)) pa_nil))))))))
  (pss_one (ps_ret (pv 3)))))), ?_⟩
  · rintro vs H Q E ⟨m, a, rows, n, T, ps, rfl, _⟩
    rfl
  · obtain ⟨m, a, rows, n, T, ps, rfl, hM, hs, hlt, hl, ri, two, S, n1, n2, q⟩ := h
    have ndp : ps.Nodup := ri.imp fun h => Nat.ne_of_lt h
    refine ⟨_, rfl, a, ps.map pI, rfl, .inr hs, fun pl hpl => ⟨Nat.zero_le _, fun po hpo => ?_⟩⟩
    have x1 := same_laid (o := .lst (ps.map pI)) hpl
    have x2 := same_laid (o := .lst []) hpo
    have poH : H po = none := gone x1 hpo
    have nlo : pl ≠ po := ne_of_none (H := upd H pl (.lst (ps.map pI))) upd_same hpo
    refine ⟨fun mm σ H3 => ∃ (p' : Addr) (v4 v5 : Option V) (us : List V) (Ls : List (List Nat)) (left : List Nat), σ = [some (.ref m), some (.ref a), some (.ref p'), some (.ref po), v4, v5, none] ∧ Same H H3 ∧ p' ≠ po ∧ H3 p' = some (.lst (left.map pI)) ∧ H3 po = some (.lst us) ∧ Paired (TpN H3) us Ls ∧ GrI T ps Ls left ∧ Ls.length + left.length ≤ ps.length ∧ mm = left.length,
      ⟨_, pl, none, none, [], [], ps, rfl, x1.trans x2, nlo, x2 _ _ upd_same, upd_same, .nil, GrI.start, by simp, rfl⟩, ?_⟩
    rintro mm σ H3 ⟨p', v4, v5, us, Ls, left, rfl, s3, npo, hp3, ho3, pU, gi, lb, rfl⟩
    have lus := pU.length
    refine ⟨_, rfl, _, .inl ⟨_, SqL.of hp3, rfl⟩, ?_⟩
    cases left with
    | nil => exact iteF ⟨_, rfl, q po us Ls H3 s3 ho3 pU gi⟩
    | cons x r =>
      have hxP : x ∈ ps := gi.sub.subset (List.mem_cons_self ..)
      have hin : ∀ y ∈ x :: r, y ∈ ps := fun y hy => gi.sub.subset hy
      have lr := gi.sub.length_le
      rw [List.length_cons] at lr lb
      refine iteT ?_
      refine ⟨fun σ' H' => ∃ (p' : Addr) (v4 v5 : Option V) (us : List V) (Ls : List (List Nat)) (left : List Nat), σ' = [some (.ref m), some (.ref a), some (.ref p'), some (.ref po), v4, v5, none] ∧ Same H H' ∧ p' ≠ po ∧ H' p' = some (.lst (left.map pI)) ∧ H' po = some (.lst us) ∧ Paired (TpN H') us Ls ∧ GrI T ps Ls left ∧ Ls.length + left.length ≤ ps.length ∧ left.length < (x :: r).length, fun σ' H' ⟨a1, a2, a3, a4, a5, a6, e1, e2, e3, e4, e5, e6, e7, e8, e9⟩ => ⟨_, e9, a1, a2, a3, a4, a5, a6, e1, e2, e3, e4, e5, e6, e7, e8, rfl⟩, ?_⟩
      refine ⟨_, rfl, _, _, _, _, rfl, rfl, SqL.of hp3, atI_map (i := 0) (l := x :: r) rfl, ?_⟩
      -- who is with x in an alike set but the whole
      let qq : Nat → Bool := fun y => @decide (Sib T ps x y) (Classical.propDecidable _)
      have hqq : ∀ y, qq y = true ↔ Sib T ps x y := fun y => @decide_eq_true_iff _ (Classical.propDecidable _)
      have qf : ∀ y, qq y = false → ¬ Sib T ps x y := fun y h g => by rw [(hqq y).mpr g] at h; cases h
      refine ⟨_, rfl, p', rfl, ⟨_, SqL.of hp3⟩, fun D hD => ?_⟩
      refine comp_filtL (K := K) qq hD (SqL.of hp3) (by rw [List.length_cons]; omega) ?_ ?_
      · rintro y H4 Yes No hy s4 yes no
        refine ⟨rfl, ?_⟩
        refine ⟨_, rfl, _, rfl, rfl, _, rfl, ifI (fun c => ?_) (fun c => ?_)⟩
        · have c : y = x := Int.ofNat.inj c
          subst c
          exact iteT ⟨_, rfl, yes ((hqq y).mpr (Sib.self ndp two)) _ (Same.refl _)⟩
        · have c : x ≠ y := fun e => c (by rw [e])
          have s34 := s3.trans s4
          refine ⟨_, rfl, _, rfl, _, rfl, _, rfl, m, a, rows, n, T, ps, x, y, rfl, hM.same s34, sqT_same s34 hs, hlt, hl, ndp, hxP, hin y hy, c, fun k H5 s5 hk => ?_⟩
          refine ⟨_, rfl, _, _, rfl, .inr ⟨_, sqT_same (s34.trans s5) hs, rfl⟩, _, _, rfl, rfl, _, rfl, ?_⟩
          rw [List.length_map]
          refine ifD (fun c2 => ⟨_, rfl, yes ((hqq y).mpr (hk.mp (by omega))) _ s5⟩) (fun c2 => no ?_ _ s5)
          cases e : qq y with
          | false => rfl
          | true =>
            have := hk.mpr ((hqq y).mp e)
            omega
      intro H4 s4 hD4
      have gi2 := gi.step S n1 n2 ri two (q := qq) fun y _ => hqq y
      have hp4 := s4 _ _ hp3
      have nDo : D ≠ po := fun e => by rw [e, ho3] at hD; cases hD
      refine ⟨_, rfl, p', rfl, ⟨_, SqL.of hp4⟩, fun D2 hD2 => ?_⟩
      refine comp_filtL (K := K) (fun y => !decide (y ∈ (x :: r).filter qq)) hD2 (SqL.of hp4) (by rw [List.length_cons]; omega) ?_ ?_
      · rintro y H5 Yes No hy s5 yes no
        walk_at "rd"
        refine ⟨D, _, rfl, .inl (SqL.of (s5 _ _ hD4)), rfl, flatC _, ?_⟩
        rw [show inV (pI y) (((x :: r).filter qq).map pI) = decide (y ∈ (x :: r).filter qq) from inVC y _]
        exact ⟨_, rfl, ifB (fun c => ⟨_, rfl, yes c _ (Same.refl _)⟩) (fun c => no c _ (Same.refl _))⟩
      intro H5 s5 hD5
      have s35 := s4.trans s5
      have hD45 := s5 _ _ hD4
      have ho5 := s35 _ _ ho3
      refine ⟨_, rfl, .inl ⟨rfl, _, SqL.of ho5⟩, _, rfl, D, _, rfl, .inl ⟨SqL.of hD45, fun t6 ht6 => ?_⟩⟩
      have x6 := same_laid (o := .tup (((x :: r).filter qq).map pI)) ht6
      have ho6 := x6 _ _ ho5
      refine ⟨po, us, _, rfl, rfl, ho6, sizeBig (by omega), ?_⟩
      have s36 := s35.trans x6
      have k7 : KeepT (upd H5 t6 (.tup (((x :: r).filter qq).map pI))) (upd (upd H5 t6 (.tup (((x :: r).filter qq).map pI))) po (.lst (us ++ [.ref t6]))) := KeepT.lst ho6
      have nD2o : D2 ≠ po := fun e => by rw [e, s4 _ _ ho3] at hD2; cases hD2
      have lenx : ((x :: r).filter fun y => !decide (y ∈ (x :: r).filter qq)).length < (x :: r).length := by
        have h1 : x ∈ (x :: r).filter qq := List.mem_filter.mpr ⟨List.mem_cons_self .., (hqq x).mpr (Sib.self ndp two)⟩
        rw [List.filter_cons_of_neg (by simpa using h1), List.length_cons]
        exact Nat.lt_succ_of_le (List.length_filter_le _ _)
      refine ⟨D2, _, _, us ++ [.ref t6], Ls ++ [(x :: r).filter qq], _, rfl, sPut (s3.trans s36) poH, nD2o, by rw [upd_ne nD2o]; exact x6 _ _ hD5, upd_same, pApp (pMono persTpN ((sKt s36).trans k7) pU) (.cons ⟨t6, rfl, k7 _ _ upd_same⟩ .nil), gi2, ?_, lenx⟩
      rw [List.length_append, List.length_singleton]
      rw [List.length_cons] at lenx
      omega
end
end Ns

/-! Own layer: the tree of the strong sets. -/
namespace Ns
open PySem PySem.Spec PyProof.Rows L2
local macro_rules | `(tactic| walk_at "look") => `(tactic| first | assumption | exact upd_same | (refine (upd_ne (by first | assumption | exact Ne.symm (by assumption))).trans ?_; walk_at "look"))
local macro_rules | `(tactic| walk_at "cond") => `(tactic| first | assumption | omega | (dsimp only; omega) | exact ⟨by omega, by omega⟩ | decide | exact ⟨by decide, by decide, by decide⟩ | exact .inr ⟨by decide, by decide⟩ | exact .inl ⟨by decide, by decide⟩ | exact .inr ⟨by omega, by omega⟩ | exact .inl ⟨by omega, by omega⟩)
local macro_rules | `(tactic| walk_at "rd1") => `(tactic| first
  | refine ⟨_, rfl, ?_⟩
  | refine ⟨_, _, rfl, rfl, ?_⟩
  | refine ⟨rfl, ?_⟩
  | refine ⟨_, _, rfl, rfl, (by walk_at "cond"), ?_⟩
  | refine ⟨_, _, _, _, rfl, rfl, SqL.of (by walk_at "look"), rfl, ?_⟩
  | refine ⟨_, _, _, _, rfl, rfl, SqT.of (by walk_at "look"), rfl, ?_⟩
  | refine ⟨_, _, _, _, rfl, rfl, (by walk_at "look"), rfl, ?_⟩
  | refine .inl ⟨_, rfl, ?_⟩
  | refine ⟨.inl ⟨rfl, _, SqL.of (by walk_at "look")⟩, ?_⟩
  | refine ⟨_, _, rfl, ⟨by omega, by omega, by omega, by omega⟩, ?_⟩
  | refine ⟨_, rfl, (by omega), (by omega), ?_⟩
  | refine And.intro (by walk_at "cond") ?_)
local macro_rules | `(tactic| walk_at "rd") => `(tactic| repeat (walk_at "rd1"))

abbrev N_utree : List Str := ["tied", "points", "sort", "how", "pieces", "piece"]
theorem sc_utree : FnScope N_utree ["tied", "points"] (defScope s_utree) := ⟨rfl, rfl, rfl, by decide +kernel, rfl, by decide +kernel, by decide +kernel⟩
abbrev N_tree : List Str := ["net"]
theorem sc_tree : FnScope N_tree ["net"] (defScope s_tree) := ⟨rfl, rfl, rfl, by decide +kernel, rfl, by decide +kernel, by decide +kernel⟩
def sorM (how : Bool) : Str := if how then "apart" else "together"
/-- a tree of some points -/
def MtR (T : Tm) (H : Hp) (v : V) (L : List Nat) : Prop := ∃ d S, TN 40 H v d ∧ MTr T L d S
theorem persMtR (T : Tm) : PersT (MtR T) := fun _ _ _ _ k ⟨d, S, h, m⟩ => ⟨d, S, h.keep k (Nat.le_refl _), m⟩
theorem mtR_all {T : Tm} {H : Hp} : ∀ {us : List V} {Ls : List (List Nat)}, Paired (MtR T H) us Ls → ∃ ds Ss, TNA 40 H us ds ∧ MTrs T Ls ds Ss
  | _, _, .nil => ⟨[], [], .nil, .nil⟩
  | _, _, .cons ⟨d, S, h, m⟩ t => by
    obtain ⟨ds, Ss, h2, m2⟩ := mtR_all t
    exact ⟨d :: ds, S :: Ss, .cons h h2, .cons m m2⟩
theorem fm_all (Ls : List (List Nat)) : Ls.filterMap (fun L => some L) = Ls := by
  rw [show (fun L : List Nat => some L) = some ∘ id from rfl, List.filterMap_eq_map, List.map_id]
theorem lt_of_le_nd {l : List Nat} (h : l.Pairwise (· ≤ ·)) (nd : l.Nodup) : l.Pairwise (· < ·) := (h.and nd).imp fun ⟨a, b⟩ => Nat.lt_of_le_of_ne a b
theorem nodup_ofparts : ∀ {Ls : List (List Nat)}, Ls.flatten.Nodup → ∀ L ∈ Ls, L.Nodup
  | A :: r, h, L, hL => by
    rw [List.flatten_cons] at h
    obtain ⟨h1, h2, _⟩ := List.nodup_append.mp h
    rcases List.mem_cons.mp hL with e | hL
    · rw [e]
      exact h1
    · exact nodup_ofparts h2 L hL
theorem len_parts : ∀ {Ls : List (List Nat)}, (∀ L ∈ Ls, L ≠ []) → Ls.length ≤ Ls.flatten.length ∧ ∀ L ∈ Ls, L.length + Ls.length ≤ Ls.flatten.length + 1
  | [], _ => ⟨Nat.le_refl _, fun L h => nomatch h⟩
  | A :: r, h => by
    obtain ⟨h1, h2⟩ := len_parts (Ls := r) fun L hL => h L (List.mem_cons_of_mem _ hL)
    have ha := List.length_pos_iff.mpr (h A (List.mem_cons_self ..))
    rw [List.flatten_cons, List.length_append, List.length_cons]
    refine ⟨by omega, fun L hL => ?_⟩
    rcases List.mem_cons.mp hL with e | hL
    · rw [e]
      omega
    · have := h2 L hL
      omega
/-- the parts of a tree's node, with all that is asked of them -/
structure Node (T : Tm) (ps : List Nat) (sort : Str) (Ls : List (List Nat)) : Prop where
  kids : Kids T ps Ls
  two : 2 ≤ Ls.length
  sok : SoK T sort Ls
  so : ∀ L ∈ Ls, L.Pairwise (· < ·)
  up : Ls.Pairwise fun A B => A.headD 0 < B.headD 0
theorem Node.ne {T : Tm} {ps : List Nat} {sort : Str} {Ls : List (List Nat)} (h : Node T ps sort Ls) : ∀ L ∈ Ls, L ≠ [] := fun L hL e => by
  obtain ⟨x, _, hx⟩ := (h.kids.str L hL).ne
  rw [e] at hx
  cases hx
theorem headD_mem {L : List Nat} (h : L ≠ []) : L.headD 0 ∈ L := by
  cases L with
  | nil => exact absurd rfl h
  | cons a r => exact List.mem_cons_self ..
theorem node_pieces {T : Tm} (S : SyT T) {ps : List Nat} (ri : ps.Pairwise (· < ·)) {how : Bool} {Ls : List (List Nat)} (ok : PcsOk T how ps Ls) (two : 2 ≤ Ls.length) : Node T ps (sorM how) Ls := by
  have nd : ps.Nodup := ri.imp fun h => Nat.ne_of_lt h
  have k := kids_pieces S ok nd two
  have ne : ∀ L ∈ Ls, L ≠ [] := fun L hL e => by
    obtain ⟨x, _, hx⟩ := (k.str L hL).ne
    rw [e] at hx
    cases hx
  have tw : Ls.Pairwise fun A B => T (A.headD 0) (B.headD 0) = !how := List.Pairwise.imp_of_mem (fun {A B} hA hB h => h _ (headD_mem (ne A hA)) _ (headD_mem (ne B hB))) ok.two
  refine ⟨k, two, ?_, fun L hL => lt_of_le_nd (ok.one L hL).1 (nodup_ofparts (k.pm.nodup_iff.mpr nd) L hL), (ok.up ri).2.2⟩
  cases how with
  | true => exact .inl ⟨rfl, tw⟩
  | false => exact .inr (.inl ⟨rfl, tw⟩)
/-- alike sets that do not meet: tied to one another as any two of them are -/
theorem md_cross {T : Tm} (S : SyT T) {P : List Nat} {A B : List Nat} (hA : Md T P (· ∈ A)) (hB : Md T P (· ∈ B)) (sA : ∀ x ∈ A, x ∈ P) (sB : ∀ x ∈ B, x ∈ P) (dis : ∀ x ∈ A, x ∉ B) {a a' b b' : Nat} (ha : a ∈ A) (ha' : a' ∈ A) (hb : b ∈ B) (hb' : b' ∈ B) : T a b = T a' b' := by
  rw [hB a (sA a ha) (dis a ha) b (sB b hb) b' (sB b' hb') hb hb', S.sy a b', hA b' (sB b' hb') (fun h => dis b' h hb') a (sA a ha) a' (sA a' ha') ha ha', S.sy]
theorem prime_not {T : Tm} (S : SyT T) {P : List Nat} (nd : P.Nodup) {Ls : List (List Nat)} (k : Kids T P Ls) (two : 2 ≤ Ls.length) {b : Bool} (nc : ¬ Cutt T (!b) P) : ¬ Ls.Pairwise fun A B => T (A.headD 0) (B.headD 0) = b := by
  intro h
  have ne : ∀ L ∈ Ls, L ≠ [] := fun L hL e => by
    obtain ⟨x, _, hx⟩ := (k.str L hL).ne
    rw [e] at hx
    cases hx
  have ndf := k.pm.nodup_iff.mpr nd
  match Ls, two, k, h, ne, ndf with
  | A :: B :: r, _, k, h, ne, ndf =>
    refine nc ⟨(· ∈ A), ?_, ?_, fun x hx y hy hxA hyA => ?_⟩
    · exact ⟨_, k.mem (List.mem_cons_self ..) _ (headD_mem (ne A (List.mem_cons_self ..))), headD_mem (ne A (List.mem_cons_self ..))⟩
    · have hB : B ∈ A :: B :: r := List.mem_cons_of_mem _ (List.mem_cons_self ..)
      refine ⟨_, k.mem hB _ (headD_mem (ne B hB)), fun hA => ?_⟩
      rw [List.flatten_cons] at ndf
      exact (List.nodup_append.mp ndf).2.2 _ hA _ (List.mem_flatten.mpr ⟨B, List.mem_cons_self .., headD_mem (ne B hB)⟩) rfl
    · obtain ⟨C, hC, yC⟩ := List.mem_flatten.mp (k.pm.mem_iff.mpr hy)
      have hAm : A ∈ A :: B :: r := List.mem_cons_self ..
      have hCr : C ∈ B :: r := (List.mem_cons.mp hC).resolve_left fun e => hyA (e ▸ yC)
      have e := (List.pairwise_cons.mp h).1 C hCr
      have dis : ∀ z ∈ A, z ∉ C := fun z hz hzC => by
        rw [List.flatten_cons] at ndf
        exact (List.nodup_append.mp ndf).2.2 z hz z (List.mem_flatten.mpr ⟨C, hCr, hzC⟩) rfl
      rw [md_cross S (k.str A hAm).md (k.str C hC).md (k.mem hAm) (k.mem hC) dis hxA (headD_mem (ne A hAm)) yC (headD_mem (ne C hC)), e, Bool.not_not]
theorem node_prime {T : Tm} (S : SyT T) {ps : List Nat} (ri : ps.Pairwise (· < ·)) (l2 : 2 ≤ ps.length) (n1 : ¬ Cutt T true ps) (n2 : ¬ Cutt T false ps) {Ls : List (List Nat)} (gi : GrI T ps Ls []) : Node T ps "prime" Ls := by
  have nd : ps.Nodup := ri.imp fun h => Nat.ne_of_lt h
  have pm := gi.pm
  rw [List.append_nil] at pm
  have k := kids_prime S nd l2 n1 n2 pm gi.cls
  have two : 2 ≤ Ls.length := by
    match Ls, pm, gi, k with
    | [], pm, _, _ =>
      have := pm.length_eq
      rw [List.flatten_nil, List.length_nil] at this
      omega
    | [A], pm, gi, _ =>
      exfalso
      obtain ⟨x, hx, c⟩ := gi.cls A (List.mem_cons_self ..)
      obtain ⟨z, hz, n⟩ := sib_less S nd l2 n1 n2 hx
      refine n ((c z hz).mp ?_)
      have := pm.mem_iff.mpr hz
      simpa using this
    | _ :: _ :: _, _, _, _ => simp
  exact ⟨k, two, .inr (.inr ⟨rfl, prime_not S nd k two (b := false) n1, prime_not S nd k two (b := true) n2⟩), gi.so, gi.up⟩
theorem syM_of {n : Nat} {ties : List (Nat × Nat)} (hg : Good n ties) : SyT (tieT ties) := ⟨fun x y => tieT_sym ties x y, fun x => tieT_irr hg x⟩
section
variable {P : Program} {w : World} {K : PySem.W.Frag} {mg : Str → Option Value} {base : Heap}
def sp_utree (g : Nat) : Sp := fun vs H Q _ => ∃ (m s : Addr) (rows : List Addr) (n : Nat) (T : Tm) (ps : List Nat), vs = [.ref m, .ref s] ∧ Mat H m rows n T ∧ H s = some (.tup (ps.map pI)) ∧ (∀ x ∈ ps, x < n) ∧ ps.length ≤ 40 ∧ ps ≠ [] ∧ ps.Pairwise (· < ·) ∧ SyT T ∧ ps.length ≤ g ∧ ∀ (v : V) H', Same H H' → MtR T H' v ps → Q v H'
theorem cal_utree_step {g k : Nat} {spR : Sp} (A : At K mg "_tree" s_utree) (B : Bi mg) (hk : 2 ≤ k) (c_pieces_by : Cal P w K mg base 1 "pieces_by" (sp_pieces_by K)) (c_greatest_alike : Cal P w K mg base 2 "_greatest_alike" (sp_greatest K)) (c_utree : Cal P w K mg base k "_tree" spR)
    (hR : ∀ j vs H Q E, j + 1 = g → sp_utree j vs H Q E → spR vs H Q E) : Cal P w K mg base (k + 1) "_tree" (sp_utree g) := by
  have nd := sc_utree.nd
  have c_pieces_by := c_pieces_by.mono (show 1 ≤ k by omega)
  have c_greatest_alike := c_greatest_alike.mono hk
  refine A.cal sc_utree (fun _ _ _ _ _ _ us hl => match us, hl with | [_, _], _ => rfl) ?_ fun f cdv A' outer s H vs Q E hr h => ⟨_, (pss_cons (ps_if (pt_cmpR op_eq (pe_callB (call_lenK (K := K) rfl) (by rfl) B.len (by decide +kernel) (pa_cons (pv 1) pa_nil)) pe_int (nomark _)) (pss_one (ps_ret (pe_ix (ix_tupK (K := K) rfl) (pv 1) pe_int (fun _ _ => rfl)))) pss_nil)
  (pss_cons (ps_for passOwn rfl (pi_tupK (K := K) rfl (pe_tup (pa_cons (pe_tup (pa_cons pe_str (pa_cons pe_bl pa_nil))) (pa_cons (pe_tup (pa_cons pe_str (pa_cons pe_bl pa_nil))) pa_nil)))) (pg_tupK (K := K) (n := 2) rfl rfl (pgs_cons (pg_name (i := 2) nd rfl (.inl rfl)) (pgs_cons (pg_name (i := 3) nd rfl (.inl rfl)) pgs_nil))) (pss_cons (ps_set (i := 4) nd rfl (.inl rfl) (pe_cal c_pieces_by hr (by first | decide | omega) (by rfl) passE (pa_cons (pv 0) (pa_cons (pv 1) (pa_cons (pv 3) pa_nil)))))
  (pss_one (ps_if (pt_cmpR op_gt (pe_callB (call_lenK (K := K) rfl) (by rfl) B.len (by decide +kernel) (pa_cons (pv 4) pa_nil)) pe_int (nomark _)) (pss_one (ps_ret (pe_tup (pa_cons (pv 2) (pa_cons (pe_callTy (call_tuple_ofK (K := K) rfl) (by rfl) B.tuple (by decide +kernel) (pa_cons (pe_lc (own := [("piece", 5)]) rfl nd (pi_listK (K := K) rfl (pv 4)) (blkOk_by (own := [("piece", 5)]) (N := N_utree) (sc := defScope s_utree) (by decide +kernel)) (fun _ _ _ _ _ => (pg_name (i := 5) nd rfl (.inl rfl) (.inr rfl))) (fun _ _ _ _ _ => pts_nil) (fun _ _ _ _ _ => (pe_cal c_utree hr (by first | decide | omega) (by rfl) passL (pa_cons (pv 0) (pa_cons (pv 5) pa_nil))))) pa_nil)) pa_nil))))) pss_nil))))
  (pss_one (ps_ret (pe_tup (pa_cons pe_str (pa_cons (pe_callTy (call_tuple_ofK (K := K) rfl) (by rfl) B.tuple (by decide +kernel) (pa_cons (pe_lc (own := [("piece", 5)]) rfl nd (pi_listK (K := K) rfl (pe_cal c_greatest_alike hr (by first | decide | omega) (by rfl) passE (pa_cons (pv 0) (pa_cons (pv 1) pa_nil)))) (blkOk_by (own := [("piece", 5)]) (N := N_utree) (sc := defScope s_utree) (by decide +kernel)) (fun _ _ _ _ _ => (pg_name (i := 5) nd rfl (.inl rfl) (.inr rfl))) (fun _ _ _ _ _ => pts_nil) (fun _ _ _ _ _ => (pe_cal c_utree hr (by first | decide | omega) (by rfl) passL (pa_cons (pv 0) (pa_cons (pv 5) pa_nil))))) pa_nil)) pa_nil))))))), ?_⟩
  · rintro vs H Q E ⟨m, s, rows, n, T, ps, rfl, _⟩
    rfl
  · obtain ⟨m, s, rows, n, T, ps, rfl, hM, hs, hlt, hl, hne, ri, S, hg, q⟩ := h
    have hnd : ps.Nodup := ri.imp fun h => Nat.ne_of_lt h
    obtain ⟨x0, hx0⟩ : ∃ x, ps[0]? = some x := ⟨_, List.getElem?_eq_getElem (List.length_pos_iff.mpr hne)⟩
    refine ⟨_, rfl, _, _, rfl, .inr ⟨_, SqT.of hs, rfl⟩, rfl, _, rfl, ifI (fun c => ?_) (fun c => ?_)⟩
    · rw [List.length_map] at c
      obtain ⟨y, rfl⟩ : ∃ y, ps = [y] := List.length_eq_one_iff.mp (by omega)
      cases hx0
      exact ⟨_, rfl, _, _, _, _, rfl, rfl, SqT.of hs, atI_map (i := 0) rfl, q _ H (Same.refl H) ⟨_, _, .int _, .leaf x0⟩⟩
    rw [List.length_map] at c
    have h2 : 2 ≤ ps.length := by
      have := List.length_pos_iff.mpr hne
      omega
    obtain ⟨j, rfl⟩ : ∃ j, g = j + 1 := ⟨g - 1, by omega⟩
    -- the trees of the parts, as a tuple
    have step : ∀ {sort : Str} {Ls : List (List Nat)} {us : List V} {pp : Addr} {H5 : Hp} {v2 v3 v4 : Option V} {Q' : VK} {ex : TE} (hex : ∀ Q2 : VK, Q2 (.ref pp) H5 → ex [some (.ref m), some (.ref s), v2, v3, v4, none] H5 Q2), Node T ps sort Ls → Same H H5 → H5 pp = some (.lst us) → Paired (TpN H5) us Ls → (∀ (t : Addr) (ds : List PyData) (Ss : List (List (List Nat))) (zs : List V) H6, Same H5 H6 → H6 t = some (.tup zs) → zs.length ≤ 40 → TNA 40 H6 zs ds → MTrs T Ls ds Ss → Q' (.ref t) H6) →
        tCB (rTupOfK K) (tCons (tLc (iList K ex) (gName 5) tYes (tCall spR [] E0 (tCons (tVar 0) (tCons (tVar 5) tNil))) [5]) tNil) [some (.ref m), some (.ref s), v2, v3, v4, none] H5 Q' := by
      intro sort Ls us pp H5 v2 v3 v4 Q' ex hex N s5 hpp pU q'
      have hLs := len_parts N.ne
      have lpm := N.kids.pm.length_eq
      have lus := pU.length
      have two := N.two
      refine hex _ ⟨pp, rfl, ⟨_, SqL.of hpp⟩, fun D hD => ?_⟩
      refine comp_list (K := K) persTpN (fun L : List Nat => some L) (persMtR T) hD (SqL.of hpp) (sizeBig (by omega)) pU ?_ ?_
      · rintro L v H6 Yes No hL ⟨tL, rfl, htL⟩ s6 yes no
        refine ⟨rfl, ?_⟩
        have s56 := s5.trans s6
        have lL := hLs.2 L hL
        refine ⟨_, rfl, _, rfl, hR j _ _ _ _ rfl ⟨m, tL, rows, n, T, L, rfl, hM.same s56, htL, fun x hx => hlt x (N.kids.mem hL x hx), by omega, N.ne L hL, N.so L hL, S, by omega, fun v H7 s7 co => ?_⟩⟩
        exact yes L rfl _ _ s7 co
      · intro H6 ys s6 hy pr
        rw [fm_all] at pr
        obtain ⟨ds, Ss, tn, ms⟩ := mtR_all pr
        have lys := pr.length
        refine ⟨D, _, rfl, .inl ⟨SqL.of hy, fun t ht => ?_⟩⟩
        have x7 := same_laid (o := .tup ys) ht
        exact q' t ds Ss ys _ (s6.trans x7) upd_same (by omega) (tn.keep (sKt x7) (Nat.le_refl _)) ms
    refine ⟨by show 2 ≤ sizeLine; decide, fun t1 ht1 => ⟨by show 2 ≤ sizeLine; decide, fun t2 ht2 => ⟨by show 2 ≤ sizeLine; decide, fun t3 ht3 => ?_⟩⟩⟩
    have x1 := same_laid (o := .tup [.str "apart", .bl true]) ht1
    have x2 := same_laid (o := .tup [.str "together", .bl false]) ht2
    have x3 := same_laid (o := .tup [.ref t1, .ref t2]) ht3
    have s3 := x1.trans (x2.trans x3)
    have k1 := (x2.trans x3) _ _ (show (upd H t1 (.tup [.str "apart", .bl true])) t1 = some (.tup [.str "apart", .bl true]) from upd_same)
    have k2 := x3 _ _ (show (upd (upd H t1 (.tup [.str "apart", .bl true])) t2 (.tup [.str "together", .bl false])) t2 = some (.tup [.str "together", .bl false]) from upd_same)
    have k3 : (upd (upd (upd H t1 (.tup [.str "apart", .bl true])) t2 (.tup [.str "together", .bl false])) t3 (.tup [.ref t1, .ref t2])) t3 = some (.tup [.ref t1, .ref t2]) := upd_same
    generalize (upd (upd (upd H t1 (.tup [.str "apart", .bl true])) t2 (.tup [.str "together", .bl false])) t3 (.tup [.ref t1, .ref t2])) = H3 at s3 k1 k2 k3
    refine ⟨t3, rfl, ⟨_, SqT.of k3⟩, for_tup (K := K) (a := t3) (xs := [.ref t1, .ref t2]) (fun i σ H4 => ∃ v2 v3 v4, σ = [some (.ref m), some (.ref s), v2, v3, v4, none] ∧ Same H3 H4 ∧ (0 < i → ¬ Cutt T true ps) ∧ (1 < i → ¬ Cutt T false ps)) ⟨_, _, _, rfl, Same.refl _, fun h => absurd h (Nat.lt_irrefl 0), fun h => absurd h (by decide)⟩ (fun i σ H4 _ ⟨_, _, _, _, s4, _⟩ => SqT.of (s4 _ _ k3)) ?_ ?_⟩
    · rintro i y σ H4 hy ⟨v2, v3, v4, rfl, s4, c1, c2⟩
      obtain ⟨how, ti, rfl, hti, hcut⟩ : ∃ how ti, y = .ref ti ∧ H3 ti = some (.tup [.str (sorM how), .bl how]) ∧ (¬ Cutt T how ps → (0 < i + 1 → ¬ Cutt T true ps) ∧ (1 < i + 1 → ¬ Cutt T false ps)) := by
        match i, hy, c1 with
        | 0, hy, _ => exact ⟨true, t1, (Option.some.inj hy).symm, k1, fun h => ⟨fun _ => h, fun h => absurd h (by decide)⟩⟩
        | 1, hy, c1 => exact ⟨false, t2, (Option.some.inj hy).symm, k2, fun h => ⟨fun _ => c1 (by decide), fun _ => h⟩⟩
      have s04 := s3.trans s4
      refine ⟨ti, _, rfl, SqT.of (s4 _ _ hti), rfl, _, _, rfl, _, _, rfl, rfl, ?_⟩
      refine ⟨_, rfl, _, rfl, _, rfl, m, s, rows, n, T, ps, how, rfl, hM.same s04, SqT.of (s04 _ _ hs), hlt, hl, fun pp us Ls H5 s5 hpp pU ok => ?_⟩
      have s05 := s04.trans s5
      have lus := pU.length
      refine ⟨_, rfl, _, _, rfl, .inl ⟨_, SqL.of hpp, rfl⟩, _, _, rfl, rfl, _, rfl, ifD (fun c3 => ?_) (fun c3 => ?_)⟩
      · have N := node_pieces S ri ok (by omega)
        refine ⟨_, rfl, step (fun Q2 h => ⟨_, rfl, h⟩) N s05 hpp pU fun t ds Ss zs H6 s6 ht lz tn ms => ?_⟩
        refine ⟨by show 2 ≤ sizeLine; decide, fun t7 ht7 => ?_⟩
        have x7 := same_laid (o := .tup [.str (sorM how), .ref t]) ht7
        refine q _ _ (s05.trans (s6.trans x7)) ⟨_, _, .tup upd_same (by show 2 ≤ 40; decide) (.cons (.str _) (.cons (.tup (x7 _ _ ht) lz (tn.keep (sKt x7) (Nat.le_refl _))) .nil)), .node ri N.kids N.two N.sok N.so N.up ms⟩
      · obtain ⟨L, rfl⟩ : ∃ L, Ls = [L] := by
          have pm := ok.pm
          rw [List.append_nil] at pm
          match Ls, lus, pm, c3 with
          | [], _, pm, _ => exact absurd pm.symm.eq_nil hne
          | [L], _, _, _ => exact ⟨L, rfl⟩
          | _ :: _ :: _, lus, _, c3 =>
            rw [List.length_cons, List.length_cons] at lus
            omega
        obtain ⟨g1, g2⟩ := hcut (PcsOk.one_ S ok)
        exact ⟨_, _, _, rfl, s4.trans s5, g1, g2⟩
    · rintro σ H4 ⟨v2, v3, v4, rfl, s4, c1, c2⟩
      have s04 := s3.trans s4
      have n1 := c1 (by show 0 < 2; decide)
      have n2 := c2 (by show 1 < 2; decide)
      refine ⟨_, rfl, _, rfl, m, s, rows, n, T, ps, rfl, hM.same s04, SqT.of (s04 _ _ hs), hlt, hl, ri, h2, S, n1, n2, fun pp us Ls H5 s5 hpp pU gi => ?_⟩
      have s05 := s04.trans s5
      have N := node_prime S ri h2 n1 n2 gi
      refine step (ex := fun _ _ Q2 => Q2 (.ref pp) H5) (v2 := v2) (v3 := v3) (v4 := v4) (fun Q2 h => h) N s05 hpp pU fun t ds Ss zs H6 s6 ht lz tn ms => ?_
      refine ⟨by show 2 ≤ sizeLine; decide, fun t7 ht7 => ?_⟩
      have x7 := same_laid (o := .tup [.str "prime", .ref t]) ht7
      exact q _ _ (s05.trans (s6.trans x7)) ⟨_, _, .tup upd_same (by show 2 ≤ 40; decide) (.cons (.str _) (.cons (.tup (x7 _ _ ht) lz (tn.keep (sKt x7) (Nat.le_refl _))) .nil)), .node ri N.kids N.two N.sok N.so N.up ms⟩
theorem cal_utree (A : At K mg "_tree" s_utree) (B : Bi mg) (c_pieces_by : Cal P w K mg base 1 "pieces_by" (sp_pieces_by K)) (c_greatest_alike : Cal P w K mg base 2 "_greatest_alike" (sp_greatest K)) : ∀ g : Nat, Cal P w K mg base (2 + g + 1) "_tree" (sp_utree g)
  | 0 => by
    have c0 : Cal P w K mg base (1 + 1) "_tree" (fun _ _ _ _ => False) := A.cal sc_utree (fun _ _ _ _ _ _ us hl => match us, hl with | [_, _], _ => rfl) (fun _ _ _ _ h => h.elim) fun _ _ _ _ _ _ _ _ _ _ h => h.elim
    exact cal_utree_step (g := 0) A B (by omega) c_pieces_by c_greatest_alike c0 fun j _ _ _ _ h => absurd h (Nat.succ_ne_zero j)
  | g + 1 => cal_utree_step A B (by omega) c_pieces_by c_greatest_alike (cal_utree A B c_pieces_by c_greatest_alike g) fun j _ _ _ _ h x => by
    rw [← Nat.succ.inj h]
    exact x
/-- what tree tells -/
def sp_tree (g : Nat) : Sp := fun vs H Q _ => ∃ (v : V) (n : Nat) (ties : List (Nat × Nat)), vs = [v] ∧ Net H v n ties ∧ n ≤ 40 ∧ n ≤ g ∧ Good n ties ∧ (n = 0 → ∀ H', Same H H' → Q .non H') ∧ (0 < n → ∀ (t : V) (H' : Hp), Same H H' → MtR (tieT ties) H' t (List.range n) → Q t H')
theorem cal_tree {g : Nat} {CB : Addr} (hg4 : 4 ≤ 2 + g + 1) (A : At K mg "tree" s_tree) (B : Bi mg) (c_check_net : Cal P w K mg base 4 "check_net" (sp_check_net K CB)) (c_matrix : Cal P w K mg base 1 "matrix" sp_matrix) (c_utree : Cal P w K mg base (2 + g + 1) "_tree" (sp_utree g)) : Cal P w K mg base (2 + g + 1 + 1) "tree" (sp_tree g) := by
  have nd := sc_tree.nd
  have c_matrix := c_matrix.mono (show 1 ≤ 2 + g + 1 by omega)
  have c_check_net := c_check_net.mono hg4
  refine A.cal sc_tree (fun _ _ _ _ _ _ us hl => match us, hl with | [_], _ => rfl) ?_ fun f cdv A' outer s H vs Q E hr h => ⟨_, (pss_cons (ps_expr (pe_cal c_check_net hr (by first | decide | omega) (by rfl) passE (pa_cons (pv 0) pa_nil)))
  (pss_one (ps_ret (pe_ifExp (pt_cmpR op_eq (pe_ix (ix_tupK (K := K) rfl) (pv 0) pe_int (fun _ _ => rfl)) pe_int (nomark _)) pe_non (pe_cal c_utree hr (by first | decide | omega) (by rfl) passE (pa_cons (pe_cal c_matrix hr (by first | decide | omega) (by rfl) passE (pa_cons (pv 0) pa_nil)) (pa_cons (pe_tupRg rfl (by rfl) B.tuple (prg_1 (by rfl) B.range (pe_ix (ix_tupK (K := K) rfl) (pv 0) pe_int (fun _ _ => rfl)))) pa_nil))))))), ?_⟩
  · rintro vs H Q E ⟨v, n, ties, rfl, _⟩
    rfl
  · obtain ⟨v, n, ties, rfl, hN, hn, hng, hg, q0, q⟩ := h
    have hmt : ∀ p ∈ ties, p.1 < n ∧ p.2 < n := fun p hp => ⟨by have := hg.1 p hp; omega, (hg.1 p hp).2⟩
    refine ⟨_, rfl, v, netD n ties, rfl, dp_net hN, fun _ H0 s0 => ?_, fun e => by rw [isNetD_net.mpr ⟨hn, hg⟩] at e; cases e⟩
    have hN0 := hN.keep (sKt s0)
    obtain ⟨t0, u0, rfl, h0, _⟩ := id hN0
    have h0 : H0 t0 = some (.tup [pI n, u0]) := h0
    refine ⟨_, rfl, _, _, _, _, rfl, rfl, SqT.of h0, rfl, rfl, _, rfl, ifI (fun c => ?_) (fun c => ?_)⟩
    · exact q0 (by omega) H0 s0
    · refine ⟨_, rfl, _, n, ties, rfl, hN0, by omega, hmt, fun m rows H1 s1 nm _ hM => ?_⟩
      refine ⟨_, rfl, _, _, _, _, rfl, rfl, SqT.of (s1 _ _ h0), rfl, _, rfl, RgOk.of_le (by omega) (by omega) (by omega) (by omega), fun r hr => ?_⟩
      have x2 := same_laid (o := .tup (rgV 0 (n : Int))) hr
      have hr2 : (upd H1 r (.tup (rgV 0 (n : Int)))) r = some (.tup ((List.range n).map pI)) := by rw [upd_same, rgV_C]
      generalize (upd H1 r (.tup (rgV 0 (n : Int)))) = H2 at x2 hr2
      have c : 0 < n := by omega
      refine ⟨m, r, rows, n, tieT ties, List.range n, rfl, hM.same x2, hr2, fun x hx => List.mem_range.mp hx, by rw [List.length_range]; omega, fun e => by (have := congrArg List.length e; rw [List.length_range, List.length_nil] at this; omega), List.pairwise_lt_range, syM_of hg, by rw [List.length_range]; exact hng, fun t H3 s3 co => ?_⟩
      exact q c t H3 (s0.trans (s1.trans (x2.trans s3))) co
end
end Ns

/-! Own layer Xt: xs.extend(t), t a tuple. -/
namespace PySem
open Sem (wp)
open Builtin

open AutoSeq1
set_option maxRecDepth 8000 in
theorem list_extend_tupleX (l : Addr) (items : Array Value) (n : Nat) (b : Addr) (items2 : Array Value) (n2 : Nat) (dd : Option Addr) (sl : Array (Option Value)) (hs0 : ¬(!items.isEmpty && Builtin.List.listTooLong (items.size + items2.size)) = true) (hs1 : items.size ≤ sizeLine) (hs2 : items.size + items2.size ≤ sizeLine + 1) :
    Meets (Builtin.«list.extend» ⟨[.ref l, .ref b], []⟩) (fun _ R s => s.heap.get? l = some { cls := .type "list", dict := none, data := .seq items n, slots := #[] } ∧ s.heap.get? b = some { cls := .type "tuple", dict := dd, data := .seq items2 n2, slots := sl } ∧ R (.ok (.ret Value.none)) { s with heap := s.heap.update l (Obj.mapSeq fun x => x ++ items2), toks := s.toks }) :=
  .of_wp fun prog w A R s h => by
    obtain ⟨hp, g, d, tk, os⟩ := s; obtain ⟨hl, hb, h⟩ := h; have f1 := idx_int; have f2 := sub_tuple_tuple; have f3 := sub_list_list; have f4 := sub_tuple_list; have f5 := sub_list_tuple;
    have hz' : (items ++ items2).size ≤ sizeLine + 1 := by rw [Array.size_append]; exact hs2
    wp_walk using (wpAny_updateSeq hl rfl (hz := hs1) (_hz' := hz')), wpAny_loadPart' hl, wpAny_loadPart' hb; exact ⟨_, rfl, h⟩
end PySem
namespace Ns
open PySem PySem.Spec PyProof.Rows L2
def rExtendT (K : PySem.W.Frag) : V → List V → Hp → VK → Prop := fun x vs H Q => ∃ l b xs zs, x = .ref l ∧ vs = [.ref b] ∧ H l = some (.lst xs) ∧ SqT K H b zs ∧ xs.length + zs.length ≤ sizeLine ∧ Q .non (upd H l (.lst (xs ++ zs)))
theorem mt_extendT {X : Cx} {K : PySem.W.Frag} (hK : X.K = K) : MtM X "list.extend" (rExtendT K) := by
  subst hK
  intro pins s σ H x vs v us Q I rx rv h
  obtain ⟨l, b, xs, zs, rfl, rfl, hH, hB, hz, q⟩ := h
  cases rx
  obtain ⟨u, rfl, ru⟩ := rv.one
  cases ru
  obtain ⟨z, its, n, r, hl, e⟩ := I.lstM hH
  obtain ⟨its2, r2, ⟨o, ho, hc, n2, hd⟩, hz2⟩ := I.tuple hB
  obtain ⟨c, dd, dt, sl⟩ := o
  have hc : c = .type "tuple" := hc
  have hd : dt = .seq its2.toArray n2 := hd
  subst hc hd
  have hl2 : its2.length = zs.length := r2.length.symm
  have hsz : its.toArray.size + its2.toArray.size ≤ sizeLine := by rw [List.size_toArray, List.size_toArray]; omega
  have hlong : ¬ (!its.toArray.isEmpty && Builtin.List.listTooLong (its.toArray.size + its2.toArray.size)) = true := by
    rw [notLongL hsz, Bool.and_false]
    exact Bool.false_ne_true
  refine call_meets F.slot_list_extend ⟨_, e, rfl⟩ F.entry_list_extend (F.args_list_extend_2 _ _)
    (list_extend_tupleX l its.toArray n b its2.toArray n2 dd sl hlong (by rw [List.size_toArray]; omega) (by omega)) ⟨e, ho, ?_⟩
  refine ⟨.non, _, I.lset (its' := its ++ its2) hH e (by simp) (r.append r2) ?_, rfl, q⟩
  rw [List.length_append]
  omega
end Ns

/-! Own layer: the points of a tree, its sets. -/
namespace Ns
open PySem PySem.Spec PyProof.Rows L2
local macro_rules | `(tactic| walk_at "look") => `(tactic| first | assumption | exact upd_same | (refine (upd_ne (by first | assumption | exact Ne.symm (by assumption))).trans ?_; walk_at "look"))
local macro_rules | `(tactic| walk_at "cond") => `(tactic| first | assumption | omega | (dsimp only; omega) | exact ⟨by omega, by omega⟩ | decide | exact ⟨by decide, by decide, by decide⟩ | exact .inr ⟨by decide, by decide⟩ | exact .inl ⟨by decide, by decide⟩ | exact .inr ⟨by omega, by omega⟩ | exact .inl ⟨by omega, by omega⟩)
local macro_rules | `(tactic| walk_at "rd1") => `(tactic| first
  | refine ⟨_, rfl, ?_⟩
  | refine ⟨_, _, rfl, rfl, ?_⟩
  | refine ⟨rfl, ?_⟩
  | refine ⟨_, _, rfl, rfl, (by walk_at "cond"), ?_⟩
  | refine ⟨_, _, _, _, rfl, rfl, SqL.of (by walk_at "look"), rfl, ?_⟩
  | refine ⟨_, _, _, _, rfl, rfl, SqT.of (by walk_at "look"), rfl, ?_⟩
  | refine ⟨_, _, _, _, rfl, rfl, (by walk_at "look"), rfl, ?_⟩
  | refine .inl ⟨_, rfl, ?_⟩
  | refine ⟨.inl ⟨rfl, _, SqL.of (by walk_at "look")⟩, ?_⟩
  | refine ⟨_, _, rfl, ⟨by omega, by omega, by omega, by omega⟩, ?_⟩
  | refine ⟨_, rfl, (by omega), (by omega), ?_⟩
  | refine And.intro (by walk_at "cond") ?_)
local macro_rules | `(tactic| walk_at "rd") => `(tactic| repeat (walk_at "rd1"))

abbrev N_points_of : List Str := ["one", "found", "part"]
theorem sc_points_of : FnScope N_points_of ["one"] (defScope s_points_of) := ⟨rfl, rfl, rfl, by decide +kernel, rfl, by decide +kernel, by decide +kernel⟩
abbrev N_sets : List Str := ["one", "found", "part"]
theorem sc_sets : FnScope N_sets ["one"] (defScope s_sets) := ⟨rfl, rfl, rfl, by decide +kernel, rfl, by decide +kernel, by decide +kernel⟩
abbrev N_strong_sets : List Str := ["net", "whole"]
theorem sc_strong_sets : FnScope N_strong_sets ["net"] (defScope s_strong_sets) := ⟨rfl, rfl, rfl, by decide +kernel, rfl, by decide +kernel, by decide +kernel⟩
theorem mtr_none {T : Tm} {ps : List Nat} {S : List (List Nat)} (h : MTr T ps .none S) : False := by cases h
mutual
theorem MTr.count {T : Tm} {ps : List Nat} {d : PyData} {S : List (List Nat)} : MTr T ps d S → S.length + 1 ≤ 2 * ps.length ∧ ps.length ≤ S.length
  | .leaf x => by simp
  | .node (Ls := Ls) (Ss := Ss) ri k two so rs up ts => by
    obtain ⟨h1, h2⟩ := MTrs.count ts
    have := k.pm.length_eq
    rw [List.length_cons]
    omega
theorem MTrs.count {T : Tm} {Ls : List (List Nat)} {ds : List PyData} {Ss : List (List (List Nat))} : MTrs T Ls ds Ss → Ss.flatten.length + Ls.length ≤ 2 * Ls.flatten.length ∧ Ls.flatten.length ≤ Ss.flatten.length
  | .nil => by simp
  | .cons (L := L) (S := S) a t => by
    obtain ⟨h1, h2⟩ := MTr.count a
    obtain ⟨h3, h4⟩ := MTrs.count t
    rw [List.flatten_cons, List.flatten_cons, List.length_append, List.length_append, List.length_cons]
    omega
end
theorem MTrs.at_ {T : Tm} : ∀ {Ls : List (List Nat)} {ds : List PyData} {Ss : List (List (List Nat))} {i : Nat} {d : PyData}, MTrs T Ls ds Ss → ds[i]? = some d → ∃ L S, Ls[i]? = some L ∧ Ss[i]? = some S ∧ MTr T L d S
  | _, _, _, _, _, .nil, h => by simp at h
  | _, _, _, 0, _, .cons a t, h => by
    have e := Option.some.inj h
    subst e
    exact ⟨_, _, rfl, rfl, a⟩
  | _, _, _, i + 1, _, .cons a t, h => MTrs.at_ (i := i) t h
theorem flat_next {α : Type} {Ls : List (List α)} {i : Nat} {L : List α} (h : Ls[i]? = some L) : (Ls.take (i + 1)).flatten = (Ls.take i).flatten ++ L := by
  rw [take_next h, List.flatten_append, List.flatten_cons, List.flatten_nil, List.append_nil]
theorem flat_le {α : Type} (Ls : List (List α)) (i : Nat) : (Ls.take i).flatten.length ≤ Ls.flatten.length := by
  have h : Ls.flatten = (Ls.take i).flatten ++ (Ls.drop i).flatten := by rw [← List.flatten_append, List.take_append_drop]
  rw [h, List.length_append]
  omega
theorem rising_eq : ∀ {a b : List Nat}, a.Pairwise (· ≤ ·) → b.Pairwise (· < ·) → a.Perm b → a = b
  | [], _, _, _, h => h.symm.eq_nil.symm
  | x :: a, [], _, _, h => absurd h.eq_nil (by simp)
  | x :: a, y :: b, h1, h2, h => by
    obtain ⟨p1, p2⟩ := List.pairwise_cons.mp h1
    obtain ⟨q1, q2⟩ := List.pairwise_cons.mp h2
    have e : x = y := by
      have hx := List.mem_cons.mp (h.mem_iff.mp (List.mem_cons_self (a := x) (l := a)))
      have hy := List.mem_cons.mp (h.mem_iff.mpr (List.mem_cons_self (a := y) (l := b)))
      rcases hx with e | hx
      · exact e
      · rcases hy with e | hy
        · exact e.symm
        · have := q1 x hx
          have := p1 y hy
          omega
    subst e
    rw [rising_eq p2 q2 h.cons_inv]
theorem ints_pts {as : List Int} {L : List Nat} (h : as.Perm (L.map fun x : Nat => (x : Int))) (so : as.Pairwise (· ≤ ·)) : ∃ M : List Nat, as = M.map (fun x : Nat => (x : Int)) ∧ M.Perm L ∧ M.Pairwise (· ≤ ·) := by
  obtain ⟨M, rfl, pL⟩ : ∃ M : List Nat, as = M.map (fun x : Nat => (x : Int)) ∧ M.Perm L := by
    refine ⟨as.map Int.toNat, ?_, ?_⟩
    · rw [List.map_map]
      symm
      refine (List.map_congr_left fun z hz => ?_).trans (List.map_id _)
      obtain ⟨y, _, rfl⟩ := List.mem_map.mp (h.mem_iff.mp hz)
      rfl
    · have := h.map Int.toNat
      rw [List.map_map] at this
      have e : L.map (Int.toNat ∘ fun x : Nat => (x : Int)) = L := (List.map_congr_left fun z _ => rfl).trans (List.map_id _)
      rwa [e] at this
  refine ⟨M, rfl, pL, ?_⟩
  rw [List.pairwise_map] at so
  exact so.imp fun h => Int.ofNat_le.mp h
section
variable {P : Program} {w : World} {K : PySem.W.Frag} {mg : Str → Option Value} {base : Heap}
def sp_points_of (g : Nat) : Sp := fun vs H Q _ => ∃ (v : V) (d : PyData) (T : Tm) (ps : List Nat) (S : List (List Nat)), vs = [v] ∧ TN 40 H v d ∧ MTr T ps d S ∧ ps.length ≤ g ∧ ps.length ≤ 40 ∧ ∀ (t : Addr) H', Same H H' → H' t = some (.tup (ps.map pI)) → Q (.ref t) H'
theorem cal_points_of_step {g k : Nat} {spR : Sp} (A : At K mg "points_of" s_points_of) (B : Bi mg) (c_points_of : Cal P w K mg base k "points_of" spR)
    (hR : ∀ j vs H Q E, j + 1 = g → sp_points_of j vs H Q E → spR vs H Q E) : Cal P w K mg base (k + 1) "points_of" (sp_points_of g) := by
  have nd := sc_points_of.nd
  refine A.cal sc_points_of (fun _ _ _ _ _ _ us hl => match us, hl with | [_], _ => rfl) ?_ fun f cdv A' outer s H vs Q E hr h => ⟨_, (pss_cons (ps_if (pt_not (pt_val (pe_callB (call_isiK' (K := K) rfl) (by rfl) B.isinstance (by decide +kernel) (pa_cons (pv 0) (pa_cons (pe_bltn (v := .ty "tuple") (u := .type "tuple") (by rfl) B.tuple (by decide +kernel) rfl) pa_nil))))) (pss_one (ps_ret (pe_tup (pa_cons (pv 0) pa_nil)))) pss_nil)
  (pss_cons (ps_set (i := 1) nd rfl (.inl rfl) (pe_lst pa_nil))
  (pss_cons (ps_for passOwn rfl (pi_tupK (K := K) rfl (pe_ix (ix_tupK (K := K) rfl) (pv 0) pe_int (fun _ _ => rfl))) (pg_name (i := 2) nd rfl (.inl rfl)) (pss_one (ps_expr (pe_bm PySem.F.plainAttrs_list PySem.F.slot_list_extend PySem.F.type_list_extend (mt_extendT (K := K) rfl) (pv 1) (pa_cons (pe_cal c_points_of hr (by first | decide | omega) (by rfl) passE (pa_cons (pv 2) pa_nil)) pa_nil)))))
  (pss_one (ps_ret (pe_callTy (call_tuple_ofK (K := K) rfl) (by rfl) B.tuple (by decide +kernel) (pa_cons (pe_callB (cr_sortedIT (K := K) rfl) (by rfl) B.sorted (by decide +kernel) (pa_cons (pv 1) pa_nil)) pa_nil))))))), ?_⟩
  · rintro vs H Q E ⟨v, d, T, ps, S, rfl, _⟩
    rfl
  · obtain ⟨v, d, T, ps, S, rfl, hv, mt, hg, h40, q⟩ := h
    have hd : Dp K H v d := hv.dp
    refine ⟨_, rfl, _, .ty "tuple", .type (tyName _), .type "tuple", _, rfl, .ty _, tyX_of hd, kit_ty (kit_isi _ "tuple" (by simp)), ?_⟩
    rw [isi_tuple]
    cases mt with
    | leaf x =>
      cases hv
      refine ⟨_, rfl, iteT ⟨_, rfl, by show 1 ≤ sizeLine; decide, fun t ht => q t _ (same_laid ht) upd_same⟩⟩
    | node ri kd two sok so up ms =>
      rename_i sort Ls ds Ss
      refine ⟨_, rfl, iteF ?_⟩
      cases hv with
      | tup ht hl1 ha =>
        rename_i a us
        cases ha with
        | cons hs ha =>
          cases hs
          cases ha with
          | cons hk ha =>
            cases ha
            cases hk with
            | tup hkt hl2 hka =>
              rename_i b ws
              have lws := hka.len
              have lds := ms.len.1
              have ne : ∀ L ∈ Ls, L ≠ [] := (Node.mk kd two sok so up).ne
              have lLs := len_parts ne
              have lpm := kd.pm.length_eq
              obtain ⟨j, rfl⟩ : ∃ j, g = j + 1 := ⟨g - 1, by omega⟩
              refine ⟨Nat.zero_le _, fun l hl => ?_⟩
              have x1 := same_laid (o := .lst []) hl
              refine ⟨_, rfl, _, _, _, _, rfl, rfl, SqT.of (x1 _ _ ht), rfl, b, rfl, ⟨_, SqT.of (x1 _ _ hkt)⟩, ?_⟩
              refine for_tup (K := K) (a := b) (xs := ws) (fun i σ H2 => ∃ v2, σ = [some (.ref a), some (.ref l), v2] ∧ Same H H2 ∧ H2 l = some (.lst ((Ls.take i).flatten.map pI))) ⟨none, rfl, x1, upd_same⟩ (fun i σ H2 _ ⟨_, _, s2, _⟩ => SqT.of (s2 _ _ hkt)) ?_ ?_
              · rintro i y σ H2 hy ⟨v2, rfl, s2, hl2⟩
                obtain ⟨d, hd1, hd2⟩ := hka.at_ hy
                obtain ⟨L, S, hL, hS, m⟩ := ms.at_ hd1
                have lL := lLs.2 L (List.mem_of_getElem? hL)
                refine ⟨_, rfl, .inl ⟨rfl, _, SqL.of hl2⟩, _, rfl, hR j _ _ _ _ rfl ⟨y, d, T, L, S, rfl, hd2.keep (sKt s2) (Nat.le_refl _), m, by omega, by omega, fun t H3 s3 ht3 => ?_⟩⟩
                have fl := flat_le Ls i
                refine ⟨l, t, _, _, rfl, rfl, s3 _ _ hl2, SqT.of ht3, ?_, _, rfl, sPut (s2.trans s3) hl, ?_⟩
                · rw [List.length_map, List.length_map]
                  exact Nat.le_of_lt (sizeBig (by omega))
                · rw [upd_same, flat_next hL, List.map_append]
              · rintro σ H2 ⟨v2, rfl, s2, hl2⟩
                rw [show ws.length = Ls.length by omega, List.take_length] at hl2
                refine ⟨_, rfl, l, Ls.flatten.map (fun x : Nat => (x : Int)), rfl, .inl (SqL.of (by rw [← map_pI]; exact hl2)), fun as p7 pmA soA hp7 => ?_⟩
                obtain ⟨M, rfl, pM, sM⟩ := ints_pts pmA soA
                have e := rising_eq sM ri (pM.trans kd.pm)
                subst e
                have x7 := same_laid (o := .lst ((M.map fun x : Nat => (x : Int)).map V.int)) hp7
                refine ⟨p7, _, rfl, .inl ⟨SqL.of upd_same, fun t8 ht8 => ?_⟩⟩
                exact q t8 _ (s2.trans (x7.trans (same_laid ht8))) (by rw [upd_same, ← map_pI])
theorem cal_points_of (A : At K mg "points_of" s_points_of) (B : Bi mg) : ∀ g : Nat, Cal P w K mg base (1 + g + 1) "points_of" (sp_points_of g)
  | 0 => by
    have c0 : Cal P w K mg base (0 + 1) "points_of" (fun _ _ _ _ => False) := A.cal sc_points_of (fun _ _ _ _ _ _ us hl => match us, hl with | [_], _ => rfl) (fun _ _ _ _ h => h.elim) fun _ _ _ _ _ _ _ _ _ _ h => h.elim
    exact cal_points_of_step (g := 0) A B c0 fun j _ _ _ _ h => absurd h (Nat.succ_ne_zero j)
  | g + 1 => cal_points_of_step A B (cal_points_of A B g) fun j _ _ _ _ h x => by
    rw [← Nat.succ.inj h]
    exact x
def sp_sets (g : Nat) : Sp := fun vs H Q _ => ∃ (v : V) (d : PyData) (T : Tm) (ps : List Nat) (S : List (List Nat)), vs = [v] ∧ TN 40 H v d ∧ MTr T ps d S ∧ ps.length ≤ g ∧ ps.length ≤ 40 ∧ ∀ (r : Addr) us H', Same H H' → H' r = some (.lst us) → Paired (PtC H') us S → Q (.ref r) H'
theorem cal_sets_step {g k : Nat} {spR : Sp} (A : At K mg "_sets" s_sets) (B : Bi mg) (hk : 1 + g + 1 ≤ k) (c_points_of : Cal P w K mg base (1 + g + 1) "points_of" (sp_points_of g)) (c_sets : Cal P w K mg base k "_sets" spR)
    (hR : ∀ j vs H Q E, j + 1 = g → sp_sets j vs H Q E → spR vs H Q E) : Cal P w K mg base (k + 1) "_sets" (sp_sets g) := by
  have nd := sc_sets.nd
  have c_points_of := c_points_of.mono hk
  refine A.cal sc_sets (fun _ _ _ _ _ _ us hl => match us, hl with | [_], _ => rfl) ?_ fun f cdv A' outer s H vs Q E hr h => ⟨_, (pss_cons (ps_set (i := 1) nd rfl (.inl rfl) (pe_lst (pa_cons (pe_cal c_points_of hr (by first | decide | omega) (by rfl) passE (pa_cons (pv 0) pa_nil)) pa_nil)))
  (C8.pss_cut (ps_if (pt_val (pe_callB (call_isiK' (K := K) rfl) (by rfl) B.isinstance (by decide +kernel) (pa_cons (pv 0) (pa_cons (pe_bltn (v := .ty "tuple") (u := .type "tuple") (by rfl) B.tuple (by decide +kernel) rfl) pa_nil)))) (pss_one (ps_for passOwn rfl (pi_tupK (K := K) rfl (pe_ix (ix_tupK (K := K) rfl) (pv 0) pe_int (fun _ _ => rfl))) (pg_name (i := 2) nd rfl (.inl rfl)) (pss_one (ps_expr (pe_bm PySem.F.plainAttrs_list PySem.F.slot_list_extend PySem.F.type_list_extend mt_extend (pv 1) (pa_cons (pe_cal c_sets hr (by first | decide | omega) (by rfl) passE (pa_cons (pv 2) pa_nil)) pa_nil)))))) pss_nil)
  (pss_one (ps_ret (pv 1))))), ?_⟩
  · rintro vs H Q E ⟨v, d, T, ps, S, rfl, _⟩
    rfl
  · obtain ⟨v, d, T, ps, S, rfl, hv0, mt, hg, h40, q⟩ := h
    refine ⟨_, rfl, v, d, T, ps, S, rfl, hv0, mt, hg, h40, fun t0 H0 s0 ht0 => ⟨by show 1 ≤ sizeLine; decide, fun l hl => ?_⟩⟩
    have x1 := same_laid (o := .lst [.ref t0]) hl
    have lH : H l = none := gone s0 hl
    have s1 := s0.trans x1
    have hv := hv0.keep (sKt s1) (Nat.le_refl _)
    have hl1 : (upd H0 l (.lst [.ref t0])) l = some (.lst [.ref t0]) := upd_same
    have ht1 := x1 _ _ ht0
    generalize (upd H0 l (.lst [.ref t0])) = H1 at s1 hv hl1 ht1
    have hd : Dp K H1 v d := hv.dp
    refine ⟨fun σ' H' => ∃ v2 us, σ' = [some v, some (.ref l), v2] ∧ Same H H' ∧ H' l = some (.lst us) ∧ Paired (PtC H') us S, ?_, fun σ' H' ⟨v2, us, e, s', hl', pr'⟩ => by
      subst e
      exact ⟨_, rfl, q l us H' s' hl' pr'⟩⟩
    refine ⟨_, rfl, _, .ty "tuple", .type (tyName _), .type "tuple", _, rfl, .ty _, tyX_of hd, kit_ty (kit_isi _ "tuple" (by simp)), ?_⟩
    rw [isi_tuple]
    cases mt with
    | leaf x =>
      cases hv
      exact ⟨_, rfl, iteF ⟨none, _, rfl, s1, hl1, .cons ⟨t0, rfl, ht1⟩ .nil⟩⟩
    | node ri kd two sok so up ms =>
      rename_i sort Ls ds Ss
      refine ⟨_, rfl, iteT ?_⟩
      cases hv with
      | tup ht hl1' ha =>
        rename_i a us
        cases ha with
        | cons hs ha =>
          cases hs
          cases ha with
          | cons hk2 ha =>
            cases ha
            cases hk2 with
            | tup hkt hl2 hka =>
              rename_i b ws
              have lws := hka.len
              have lds := ms.len.1
              have ne : ∀ L ∈ Ls, L ≠ [] := (Node.mk kd two sok so up).ne
              have lLs := len_parts ne
              have lpm := kd.pm.length_eq
              have cnt := ms.count.1
              obtain ⟨j, rfl⟩ : ∃ j, g = j + 1 := ⟨g - 1, by omega⟩
              refine ⟨_, rfl, _, _, _, _, rfl, rfl, SqT.of ht, rfl, b, rfl, ⟨_, SqT.of hkt⟩, ?_⟩
              refine for_tup (K := K) (a := b) (xs := ws) (fun i σ H2 => ∃ v2 us, σ = [some (.ref a), some (.ref l), v2] ∧ Same H H2 ∧ SameX l H1 H2 ∧ H2 l = some (.lst us) ∧ Paired (PtC H2) us (ps :: (Ss.take i).flatten)) ⟨none, [.ref t0], rfl, s1, SameX.refl _ _, hl1, .cons ⟨t0, rfl, ht1⟩ .nil⟩ (fun i σ H2 _ ⟨_, _, _, _, x2, _⟩ => SqT.of (x2 _ _ hkt (ne_of hkt hl1 (by intro z; cases z)))) ?_ ?_
              · rintro i y σ H2 hy ⟨v2, us, rfl, s2, x2, hl2, pr⟩
                obtain ⟨d, hd1, hd2⟩ := hka.at_ hy
                obtain ⟨L, S, hL, hS, m⟩ := ms.at_ hd1
                have lL := lLs.2 L (List.mem_of_getElem? hL)
                have kt : KeepT H1 H2 := fun c xs h => x2 _ _ h (ne_of h hl1 (by intro z; cases z))
                refine ⟨_, rfl, .inl ⟨rfl, _, SqL.of hl2⟩, _, rfl, hR j _ _ _ _ rfl ⟨y, d, T, L, S, rfl, hd2.keep kt (Nat.le_refl _), m, by omega, by omega, fun r zs H3 s3 hr3 pr3 => ?_⟩⟩
                have fl := flat_le Ss i
                have l1 := pr.length
                have l3 := pr3.length
                have mc := m.count.1
                rw [List.length_cons] at l1
                refine ⟨l, r, us, zs, rfl, rfl, s3 _ _ hl2, hr3, ?_, ?_⟩
                · exact Nat.le_of_lt (sizeBig (by omega))
                have k4 : KeepT H3 (upd H3 l (.lst (us ++ zs))) := KeepT.lst (s3 _ _ hl2)
                refine ⟨_, us ++ zs, rfl, sPut (s2.trans s3) lH, fun c o h n => ?_, upd_same, ?_⟩
                · rw [upd_ne n]
                  exact s3 _ _ (x2 _ _ h n)
                · rw [flat_next hS]
                  exact pApp (as := us) (bs := ps :: (Ss.take i).flatten) (pMono persPtC ((sKt s3).trans k4) pr) (pMono persPtC k4 pr3)
              · rintro σ H2 ⟨v2, us, rfl, s2, x2, hl2, pr⟩
                rw [show ws.length = Ss.length by have := ms.len.2; omega, List.take_length] at pr
                exact ⟨v2, us, rfl, s2, hl2, pr⟩
theorem cal_sets (A : At K mg "_sets" s_sets) (B : Bi mg) (Ap : At K mg "points_of" s_points_of) : ∀ g : Nat, Cal P w K mg base (1 + g + 1 + 1) "_sets" (sp_sets g)
  | 0 => by
    have c0 : Cal P w K mg base (1 + 1) "_sets" (fun _ _ _ _ => False) := A.cal sc_sets (fun _ _ _ _ _ _ us hl => match us, hl with | [_], _ => rfl) (fun _ _ _ _ h => h.elim) fun _ _ _ _ _ _ _ _ _ _ h => h.elim
    exact cal_sets_step (g := 0) A B (by omega) (cal_points_of Ap B 0) c0 fun j _ _ _ _ h => absurd h (Nat.succ_ne_zero j)
  | g + 1 => cal_sets_step A B (by omega) (cal_points_of Ap B (g + 1)) (cal_sets A B Ap g) fun j _ _ _ _ h x => by
    rw [← Nat.succ.inj h]
    exact x
/-- the strong sets -/
def sp_strong_sets (K : PySem.W.Frag) (g : Nat) : Sp := fun vs H Q _ => ∃ (v : V) (n : Nat) (ties : List (Nat × Nat)), vs = [v] ∧ Net H v n ties ∧ n ≤ 40 ∧ n ≤ g ∧ Good n ties ∧ ∀ (t : Addr) us (S : List (List Nat)) H', Same H H' → SqT K H' t us → Paired (PtC H') us S → (n = 0 → S = []) → (0 < n → ∃ d, MTr (tieT ties) (List.range n) d S) → Q (.ref t) H'
theorem cal_strong_sets {g : Nat} (A : At K mg "strong_sets" s_strong_sets) (B : Bi mg) (c_tree : Cal P w K mg base (2 + g + 1 + 1) "tree" (sp_tree g)) (c_sets : Cal P w K mg base (1 + g + 1 + 1) "_sets" (sp_sets g)) : Cal P w K mg base (2 + g + 1 + 1 + 1) "strong_sets" (sp_strong_sets K g) := by
  have nd := sc_strong_sets.nd
  have c_sets := c_sets.mono (show 1 + g + 1 + 1 ≤ 2 + g + 1 + 1 by omega)
  refine A.cal sc_strong_sets (fun _ _ _ _ _ _ us hl => match us, hl with | [_], _ => rfl) ?_ fun f cdv A' outer s H vs Q E hr h => ⟨_, (pss_cons (ps_set (i := 1) nd rfl (.inl rfl) (pe_cal c_tree hr (by first | decide | omega) (by rfl) passE (pa_cons (pv 0) pa_nil)))
  (pss_one (ps_ret (pe_ifExp (pt_cmpR op_isN (pv 1) pe_non (nomark _)) (pe_tup pa_nil) (pe_callTy (call_tuple_ofK (K := K) rfl) (by rfl) B.tuple (by decide +kernel) (pa_cons (pe_cal c_sets hr (by first | decide | omega) (by rfl) passE (pa_cons (pv 1) pa_nil)) pa_nil)))))), ?_⟩
  · rintro vs H Q E ⟨v, n, ties, rfl, _⟩
    rfl
  · obtain ⟨v, n, ties, rfl, hN, hn, hng, hg, q⟩ := h
    refine ⟨_, rfl, v, n, ties, rfl, hN, hn, hng, hg, fun n0 H1 s1 => ?_, fun n0 t H1 s1 hm => ?_⟩
    · refine ⟨_, rfl, rfl, _, rfl, iteT ⟨by show 0 ≤ sizeLine; decide, fun t ht => ?_⟩⟩
      exact q t [] [] _ (s1.trans (same_laid ht)) (SqT.of upd_same) .nil (fun _ => rfl) (fun h => by omega)
    · obtain ⟨d, S, tn, mt⟩ := hm
      have nn : t ≠ .non := fun e => by
        rw [e] at tn
        cases tn
        exact mtr_none mt
      refine ⟨_, rfl, rfl, _, rfl, ifX nn ?_⟩
      refine ⟨_, rfl, t, d, tieT ties, List.range n, S, rfl, tn, mt, by rw [List.length_range]; exact hng, by rw [List.length_range]; exact hn, fun r us H2 s2 hr2 pr => ?_⟩
      refine ⟨r, _, rfl, .inl ⟨SqL.of hr2, fun t3 ht3 => ?_⟩⟩
      have x3 := same_laid (o := .tup us) ht3
      exact q t3 us S _ (s1.trans (s2.trans x3)) (SqT.of upd_same) (pMono persPtC (sKt x3) pr) (fun h => by omega) (fun _ => ⟨d, mt⟩)
end
end Ns

/-! Own layer In: lists of whole numbers as data. -/
namespace Ns
open PySem PySem.Spec PyProof.Rows L2
theorem dps_ints {K : PySem.W.Frag} {H : Hp} : ∀ ns : List Int, DpAll K H (ns.map V.int) (ns.map PyData.int)
  | [] => .nil
  | _ :: ns => .cons (.int _) (dps_ints ns)
theorem ints_lay : ∀ ps : List Int, PyData.canLayAll0 (ps.map PyData.int) = true ∧ PyData.depthAll (ps.map PyData.int) ≤ 3
  | [] => ⟨rfl, by decide⟩
  | p :: r => by
    obtain ⟨h1, h2⟩ := ints_lay r
    refine ⟨?_, ?_⟩
    · show (true && PyData.canLayAll0 (r.map PyData.int)) = true
      rw [h1]
      rfl
    · have : PyData.depth (PyData.int p) ≤ 3 := by simp [PyData.depth]
      simp only [List.map_cons, PyData.depthAll]
      omega
theorem shaped_ints (ps : List Int) : SeqAt.shaped (.list (ps.map PyData.int)) = true := by
  obtain ⟨h1, h2⟩ := ints_lay ps
  have d : (PyData.list (ps.map PyData.int)).depth ≤ 6 := by
    simp only [PyData.depth]
    omega
  show (PyData.canLayAll0 (ps.map PyData.int) && decide _) = true
  rw [h1, decide_eq_true (by omega)]
  rfl
theorem eqv_ints_nil (ns : List Int) : PyData.eqv (.list (ns.map PyData.int)) (.list []) = decide (ns = []) := by
  rw [PyData.eqv]
  cases ns <;> rfl
end Ns

/-! Own layer: the law's points and sets of a tree. -/
namespace Ns
open PySem PySem.Spec PyProof.Rows L2
local macro_rules | `(tactic| walk_at "look") => `(tactic| first | assumption | exact upd_same | (refine (upd_ne (by first | assumption | exact Ne.symm (by assumption))).trans ?_; walk_at "look"))
local macro_rules | `(tactic| walk_at "cond") => `(tactic| first | assumption | omega | (dsimp only; omega) | exact ⟨by omega, by omega⟩ | decide | exact ⟨by decide, by decide, by decide⟩ | exact .inr ⟨by decide, by decide⟩ | exact .inl ⟨by decide, by decide⟩ | exact .inr ⟨by omega, by omega⟩ | exact .inl ⟨by omega, by omega⟩)
local macro_rules | `(tactic| walk_at "rd1") => `(tactic| first
  | refine ⟨_, rfl, ?_⟩
  | refine ⟨_, _, rfl, rfl, ?_⟩
  | refine ⟨rfl, ?_⟩
  | refine ⟨_, _, rfl, rfl, (by walk_at "cond"), ?_⟩
  | refine ⟨_, _, _, _, rfl, rfl, SqL.of (by walk_at "look"), rfl, ?_⟩
  | refine ⟨_, _, _, _, rfl, rfl, SqT.of (by walk_at "look"), rfl, ?_⟩
  | refine ⟨_, _, _, _, rfl, rfl, (by walk_at "look"), rfl, ?_⟩
  | refine .inl ⟨_, rfl, ?_⟩
  | refine ⟨.inl ⟨rfl, _, SqL.of (by walk_at "look")⟩, ?_⟩
  | refine ⟨_, _, rfl, ⟨by omega, by omega, by omega, by omega⟩, ?_⟩
  | refine ⟨_, rfl, (by omega), (by omega), ?_⟩
  | refine And.intro (by walk_at "cond") ?_)
local macro_rules | `(tactic| walk_at "rd") => `(tactic| repeat (walk_at "rd1"))

abbrev N_law_tree_points : List Str := ["node", "points", "one"]
theorem sc_law_tree_points : FnScope N_law_tree_points ["node"] (defScope s_law_tree_points) := ⟨rfl, rfl, rfl, by decide +kernel, rfl, by decide +kernel, by decide +kernel⟩
abbrev N_law_tree_sets : List Str := ["node", "sets", "one"]
theorem sc_law_tree_sets : FnScope N_law_tree_sets ["node"] (defScope s_law_tree_sets) := ⟨rfl, rfl, rfl, by decide +kernel, rfl, by decide +kernel, by decide +kernel⟩
section
variable {P : Program} {w : World} {K : PySem.W.Frag} {mg : Str → Option Value} {base : Heap}
def sp_ltp (g : Nat) : Sp := fun vs H Q _ => ∃ (v : V) (d : PyData) (T : Tm) (ps : List Nat) (S : List (List Nat)), vs = [v] ∧ TN 40 H v d ∧ MTr T ps d S ∧ ps.length ≤ g ∧ ps.length ≤ 40 ∧ ∀ (r : Addr) H', Same H H' → H' r = some (.lst (ps.map pI)) → Q (.ref r) H'
theorem cal_ltp_step {g k : Nat} {spR : Sp} (A : At K mg "_law_tree_points" s_law_tree_points) (B : Bi mg) (c_law_tree_points : Cal P w K mg base k "_law_tree_points" spR)
    (hR : ∀ j vs H Q E, j + 1 = g → sp_ltp j vs H Q E → spR vs H Q E) : Cal P w K mg base (k + 1) "_law_tree_points" (sp_ltp g) := by
  have nd := sc_law_tree_points.nd
  refine A.cal sc_law_tree_points (fun _ _ _ _ _ _ us hl => match us, hl with | [_], _ => rfl) ?_ fun f cdv A' outer s H vs Q E hr h => ⟨_, (pss_cons (ps_set (i := 1) nd rfl (.inl rfl) (pe_lst (pa_cons (pv 0) pa_nil)))
  (C8.pss_cut (ps_if (pt_val (pe_callB (call_isiK' (K := K) rfl) (by rfl) B.isinstance (by decide +kernel) (pa_cons (pv 0) (pa_cons (pe_bltn (v := .ty "tuple") (u := .type "tuple") (by rfl) B.tuple (by decide +kernel) rfl) pa_nil)))) (pss_cons (ps_set (i := 1) nd rfl (.inl rfl) (pe_lst pa_nil))
  (pss_one (ps_for passOwn rfl (pi_tupK (K := K) rfl (pe_ix (ix_tupK (K := K) rfl) (pv 0) pe_int (fun _ _ => rfl))) (pg_name (i := 2) nd rfl (.inl rfl)) (pss_one (ps_expr (pe_bm PySem.F.plainAttrs_list PySem.F.slot_list_extend PySem.F.type_list_extend mt_extend (pv 1) (pa_cons (pe_cal c_law_tree_points hr (by first | decide | omega) (by rfl) passE (pa_cons (pv 2) pa_nil)) pa_nil))))))) pss_nil)
  (pss_one (ps_ret (pe_callB (cr_sortedIT (K := K) rfl) (by rfl) B.sorted (by decide +kernel) (pa_cons (pv 1) pa_nil)))))), ?_⟩
  · rintro vs H Q E ⟨v, d, T, ps, S, rfl, _⟩
    rfl
  · obtain ⟨v, d, T, ps, S, rfl, hv, mt, hg, h40, q⟩ := h
    refine ⟨_, rfl, by show 1 ≤ sizeLine; decide, fun l0 hl0 => ?_⟩
    have x0 := same_laid (o := .lst [v]) hl0
    have hl0' : (upd H l0 (.lst [v])) l0 = some (.lst [v]) := upd_same
    have hv0 := hv.keep (sKt x0) (Nat.le_refl _)
    have ri := mt.rising
    generalize (upd H l0 (.lst [v])) = H0 at x0 hl0' hv0
    have hd : Dp K H0 v d := hv0.dp
    refine ⟨fun σ' H' => ∃ (l : Addr) (v2 : Option V) (M : List Nat), σ' = [some v, some (.ref l), v2] ∧ Same H H' ∧ H' l = some (.lst (M.map pI)) ∧ M.Perm ps, ?_, ?_⟩
    · refine ⟨_, rfl, _, .ty "tuple", .type (tyName _), .type "tuple", _, rfl, .ty _, tyX_of hd, kit_ty (kit_isi _ "tuple" (by simp)), ?_⟩
      rw [isi_tuple]
      cases mt with
      | leaf x =>
        cases hv
        exact ⟨_, rfl, iteF ⟨l0, none, [x], rfl, x0, hl0', List.Perm.refl _⟩⟩
      | node ri kd two sok so up ms =>
        rename_i sort Ls ds Ss
        refine ⟨_, rfl, iteT ?_⟩
        cases hv0 with
        | tup ht hl1 ha =>
          rename_i a us
          cases ha with
          | cons hs ha =>
            cases hs
            cases ha with
            | cons hk ha =>
              cases ha
              cases hk with
              | tup hkt hl2 hka =>
                rename_i b ws
                have lws := hka.len
                have lds := ms.len.1
                have ne : ∀ L ∈ Ls, L ≠ [] := (Node.mk kd two sok so up).ne
                have lLs := len_parts ne
                have lpm := kd.pm.length_eq
                obtain ⟨j, rfl⟩ : ∃ j, g = j + 1 := ⟨g - 1, by omega⟩
                refine ⟨Nat.zero_le _, fun l hl => ?_⟩
                have x1 := same_laid (o := .lst []) hl
                have lH : H l = none := gone x0 hl
                refine ⟨_, rfl, _, _, _, _, rfl, rfl, SqT.of (x1 _ _ ht), rfl, b, rfl, ⟨_, SqT.of (x1 _ _ hkt)⟩, ?_⟩
                refine for_tup (K := K) (a := b) (xs := ws) (fun i σ H2 => ∃ v2, σ = [some (.ref a), some (.ref l), v2] ∧ Same H0 H2 ∧ H2 l = some (.lst ((Ls.take i).flatten.map pI))) ⟨none, rfl, x1, upd_same⟩ (fun i σ H2 _ ⟨_, _, s2, _⟩ => SqT.of (s2 _ _ hkt)) ?_ ?_
                · rintro i y σ H2 hy ⟨v2, rfl, s2, hl2⟩
                  obtain ⟨d, hd1, hd2⟩ := hka.at_ hy
                  obtain ⟨L, S, hL, hS, m⟩ := ms.at_ hd1
                  have lL := lLs.2 L (List.mem_of_getElem? hL)
                  refine ⟨_, rfl, .inl ⟨rfl, _, SqL.of hl2⟩, _, rfl, hR j _ _ _ _ rfl ⟨y, d, T, L, S, rfl, hd2.keep (sKt s2) (Nat.le_refl _), m, by omega, by omega, fun t H3 s3 ht3 => ?_⟩⟩
                  have fl := flat_le Ls i
                  refine ⟨l, t, _, _, rfl, rfl, s3 _ _ hl2, ht3, ?_, _, rfl, sPut (s2.trans s3) hl, ?_⟩
                  · rw [List.length_map, List.length_map]
                    exact Nat.le_of_lt (sizeBig (by omega))
                  · rw [upd_same, flat_next hL, List.map_append]
                · rintro σ H2 ⟨v2, rfl, s2, hl2⟩
                  rw [show ws.length = Ls.length by omega, List.take_length] at hl2
                  exact ⟨l, v2, Ls.flatten, rfl, x0.trans s2, hl2, kd.pm⟩
    · rintro σ' H' ⟨l, v2, M, rfl, s2, hl2, pm⟩
      refine ⟨_, rfl, l, M.map (fun x : Nat => (x : Int)), rfl, .inl (SqL.of (by rw [← map_pI]; exact hl2)), fun as p7 pmA soA hp7 => ?_⟩
      obtain ⟨N, rfl, pN, sN⟩ := ints_pts pmA soA
      have e := rising_eq sN ri (pN.trans pm)
      subst e
      exact q p7 _ (s2.trans (same_laid hp7)) (by rw [upd_same, ← map_pI])
theorem cal_ltp (A : At K mg "_law_tree_points" s_law_tree_points) (B : Bi mg) : ∀ g : Nat, Cal P w K mg base (1 + g + 1) "_law_tree_points" (sp_ltp g)
  | 0 => by
    have c0 : Cal P w K mg base (0 + 1) "_law_tree_points" (fun _ _ _ _ => False) := A.cal sc_law_tree_points (fun _ _ _ _ _ _ us hl => match us, hl with | [_], _ => rfl) (fun _ _ _ _ h => h.elim) fun _ _ _ _ _ _ _ _ _ _ h => h.elim
    exact cal_ltp_step (g := 0) A B c0 fun j _ _ _ _ h => absurd h (Nat.succ_ne_zero j)
  | g + 1 => cal_ltp_step A B (cal_ltp A B g) fun j _ _ _ _ h x => by
    rw [← Nat.succ.inj h]
    exact x
theorem cal_lts_step {g k : Nat} {spR : Sp} (A : At K mg "_law_tree_sets" s_law_tree_sets) (B : Bi mg) (hk : 1 + g + 1 ≤ k) (c_law_tree_points : Cal P w K mg base (1 + g + 1) "_law_tree_points" (sp_ltp g)) (c_law_tree_sets : Cal P w K mg base k "_law_tree_sets" spR)
    (hR : ∀ j vs H Q E, j + 1 = g → sp_sets j vs H Q E → spR vs H Q E) : Cal P w K mg base (k + 1) "_law_tree_sets" (sp_sets g) := by
  have nd := sc_law_tree_sets.nd
  have c_law_tree_points := c_law_tree_points.mono hk
  refine A.cal sc_law_tree_sets (fun _ _ _ _ _ _ us hl => match us, hl with | [_], _ => rfl) ?_ fun f cdv A' outer s H vs Q E hr h => ⟨_, (pss_cons (ps_set (i := 1) nd rfl (.inl rfl) (pe_lst (pa_cons (pe_callTy (call_tuple_ofK (K := K) rfl) (by rfl) B.tuple (by decide +kernel) (pa_cons (pe_cal c_law_tree_points hr (by first | decide | omega) (by rfl) passE (pa_cons (pv 0) pa_nil)) pa_nil)) pa_nil)))
  (C8.pss_cut (ps_if (pt_val (pe_callB (call_isiK' (K := K) rfl) (by rfl) B.isinstance (by decide +kernel) (pa_cons (pv 0) (pa_cons (pe_bltn (v := .ty "tuple") (u := .type "tuple") (by rfl) B.tuple (by decide +kernel) rfl) pa_nil)))) (pss_one (ps_for passOwn rfl (pi_tupK (K := K) rfl (pe_ix (ix_tupK (K := K) rfl) (pv 0) pe_int (fun _ _ => rfl))) (pg_name (i := 2) nd rfl (.inl rfl)) (pss_one (ps_expr (pe_bm PySem.F.plainAttrs_list PySem.F.slot_list_extend PySem.F.type_list_extend mt_extend (pv 1) (pa_cons (pe_cal c_law_tree_sets hr (by first | decide | omega) (by rfl) passE (pa_cons (pv 2) pa_nil)) pa_nil)))))) pss_nil)
  (pss_one (ps_ret (pv 1))))), ?_⟩
  · rintro vs H Q E ⟨v, d, T, ps, S, rfl, _⟩
    rfl
  · obtain ⟨v, d, T, ps, S, rfl, hv0, mt, hg, h40, q⟩ := h
    refine ⟨_, rfl, v, d, T, ps, S, rfl, hv0, mt, hg, h40, fun r0 H00 s00 hr0 => ⟨r0, _, rfl, .inl ⟨SqL.of hr0, fun t0 ht0 => ⟨by show 1 ≤ sizeLine; decide, fun l hl => ?_⟩⟩⟩⟩
    have x00 := same_laid (o := .tup (ps.map pI)) ht0
    have s0 := s00.trans x00
    have ht0 : (upd H00 t0 (.tup (ps.map pI))) t0 = some (.tup (ps.map pI)) := upd_same
    generalize (upd H00 t0 (.tup (ps.map pI))) = H0 at x00 s0 ht0 hl
    have x1 := same_laid (o := .lst [.ref t0]) hl
    have lH : H l = none := gone s0 hl
    have s1 := s0.trans x1
    have hv := hv0.keep (sKt s1) (Nat.le_refl _)
    have hl1 : (upd H0 l (.lst [.ref t0])) l = some (.lst [.ref t0]) := upd_same
    have ht1 := x1 _ _ ht0
    generalize (upd H0 l (.lst [.ref t0])) = H1 at s1 hv hl1 ht1
    have hd : Dp K H1 v d := hv.dp
    refine ⟨fun σ' H' => ∃ v2 us, σ' = [some v, some (.ref l), v2] ∧ Same H H' ∧ H' l = some (.lst us) ∧ Paired (PtC H') us S, ?_, fun σ' H' ⟨v2, us, e, s', hl', pr'⟩ => by
      subst e
      exact ⟨_, rfl, q l us H' s' hl' pr'⟩⟩
    refine ⟨_, rfl, _, .ty "tuple", .type (tyName _), .type "tuple", _, rfl, .ty _, tyX_of hd, kit_ty (kit_isi _ "tuple" (by simp)), ?_⟩
    rw [isi_tuple]
    cases mt with
    | leaf x =>
      cases hv
      exact ⟨_, rfl, iteF ⟨none, _, rfl, s1, hl1, .cons ⟨t0, rfl, ht1⟩ .nil⟩⟩
    | node ri kd two sok so up ms =>
      rename_i sort Ls ds Ss
      refine ⟨_, rfl, iteT ?_⟩
      cases hv with
      | tup ht hl1' ha =>
        rename_i a us
        cases ha with
        | cons hs ha =>
          cases hs
          cases ha with
          | cons hk2 ha =>
            cases ha
            cases hk2 with
            | tup hkt hl2 hka =>
              rename_i b ws
              have lws := hka.len
              have lds := ms.len.1
              have ne : ∀ L ∈ Ls, L ≠ [] := (Node.mk kd two sok so up).ne
              have lLs := len_parts ne
              have lpm := kd.pm.length_eq
              have cnt := ms.count.1
              obtain ⟨j, rfl⟩ : ∃ j, g = j + 1 := ⟨g - 1, by omega⟩
              refine ⟨_, rfl, _, _, _, _, rfl, rfl, SqT.of ht, rfl, b, rfl, ⟨_, SqT.of hkt⟩, ?_⟩
              refine for_tup (K := K) (a := b) (xs := ws) (fun i σ H2 => ∃ v2 us, σ = [some (.ref a), some (.ref l), v2] ∧ Same H H2 ∧ SameX l H1 H2 ∧ H2 l = some (.lst us) ∧ Paired (PtC H2) us (ps :: (Ss.take i).flatten)) ⟨none, [.ref t0], rfl, s1, SameX.refl _ _, hl1, .cons ⟨t0, rfl, ht1⟩ .nil⟩ (fun i σ H2 _ ⟨_, _, _, _, x2, _⟩ => SqT.of (x2 _ _ hkt (ne_of hkt hl1 (by intro z; cases z)))) ?_ ?_
              · rintro i y σ H2 hy ⟨v2, us, rfl, s2, x2, hl2, pr⟩
                obtain ⟨d, hd1, hd2⟩ := hka.at_ hy
                obtain ⟨L, S, hL, hS, m⟩ := ms.at_ hd1
                have lL := lLs.2 L (List.mem_of_getElem? hL)
                have kt : KeepT H1 H2 := fun c xs h => x2 _ _ h (ne_of h hl1 (by intro z; cases z))
                refine ⟨_, rfl, .inl ⟨rfl, _, SqL.of hl2⟩, _, rfl, hR j _ _ _ _ rfl ⟨y, d, T, L, S, rfl, hd2.keep kt (Nat.le_refl _), m, by omega, by omega, fun r zs H3 s3 hr3 pr3 => ?_⟩⟩
                have fl := flat_le Ss i
                have l1 := pr.length
                have l3 := pr3.length
                have mc := m.count.1
                rw [List.length_cons] at l1
                refine ⟨l, r, us, zs, rfl, rfl, s3 _ _ hl2, hr3, ?_, ?_⟩
                · exact Nat.le_of_lt (sizeBig (by omega))
                have k4 : KeepT H3 (upd H3 l (.lst (us ++ zs))) := KeepT.lst (s3 _ _ hl2)
                refine ⟨_, us ++ zs, rfl, sPut (s2.trans s3) lH, fun c o h n => ?_, upd_same, ?_⟩
                · rw [upd_ne n]
                  exact s3 _ _ (x2 _ _ h n)
                · rw [flat_next hS]
                  exact pApp (as := us) (bs := ps :: (Ss.take i).flatten) (pMono persPtC ((sKt s3).trans k4) pr) (pMono persPtC k4 pr3)
              · rintro σ H2 ⟨v2, us, rfl, s2, x2, hl2, pr⟩
                rw [show ws.length = Ss.length by have := ms.len.2; omega, List.take_length] at pr
                exact ⟨v2, us, rfl, s2, hl2, pr⟩
theorem cal_lts (A : At K mg "_law_tree_sets" s_law_tree_sets) (B : Bi mg) (Ap : At K mg "_law_tree_points" s_law_tree_points) : ∀ g : Nat, Cal P w K mg base (1 + g + 1 + 1) "_law_tree_sets" (sp_sets g)
  | 0 => by
    have c0 : Cal P w K mg base (1 + 1) "_law_tree_sets" (fun _ _ _ _ => False) := A.cal sc_law_tree_sets (fun _ _ _ _ _ _ us hl => match us, hl with | [_], _ => rfl) (fun _ _ _ _ h => h.elim) fun _ _ _ _ _ _ _ _ _ _ h => h.elim
    exact cal_lts_step (g := 0) A B (by omega) (cal_ltp Ap B 0) c0 fun j _ _ _ _ h => absurd h (Nat.succ_ne_zero j)
  | g + 1 => cal_lts_step A B (by omega) (cal_ltp Ap B (g + 1)) (cal_lts A B Ap g) fun j _ _ _ _ h x => by
    rw [← Nat.succ.inj h]
    exact x
end
end Ns

/-! Own layer: the tree that is due. -/
namespace Ns
open PySem PySem.Spec PyProof.Rows L2
local macro_rules | `(tactic| walk_at "look") => `(tactic| first | assumption | exact upd_same | (refine (upd_ne (by first | assumption | exact Ne.symm (by assumption))).trans ?_; walk_at "look"))
local macro_rules | `(tactic| walk_at "cond") => `(tactic| first | assumption | omega | (dsimp only; omega) | exact ⟨by omega, by omega⟩ | decide | exact ⟨by decide, by decide, by decide⟩ | exact .inr ⟨by decide, by decide⟩ | exact .inl ⟨by decide, by decide⟩ | exact .inr ⟨by omega, by omega⟩ | exact .inl ⟨by omega, by omega⟩)
local macro_rules | `(tactic| walk_at "rd1") => `(tactic| first
  | refine ⟨_, rfl, ?_⟩
  | refine ⟨_, _, rfl, rfl, ?_⟩
  | refine ⟨rfl, ?_⟩
  | refine ⟨_, _, rfl, rfl, (by walk_at "cond"), ?_⟩
  | refine ⟨_, _, _, _, rfl, rfl, SqL.of (by walk_at "look"), rfl, ?_⟩
  | refine ⟨_, _, _, _, rfl, rfl, SqT.of (by walk_at "look"), rfl, ?_⟩
  | refine ⟨_, _, _, _, rfl, rfl, (by walk_at "look"), rfl, ?_⟩
  | refine .inl ⟨_, rfl, ?_⟩
  | refine ⟨.inl ⟨rfl, _, SqL.of (by walk_at "look")⟩, ?_⟩
  | refine ⟨_, _, rfl, ⟨by omega, by omega, by omega, by omega⟩, ?_⟩
  | refine ⟨_, rfl, (by omega), (by omega), ?_⟩
  | refine And.intro (by walk_at "cond") ?_)
local macro_rules | `(tactic| walk_at "rd") => `(tactic| repeat (walk_at "rd1"))

abbrev N_law_due : List Str := ["node", "trees", "rows", "one", "k", "first"]
theorem sc_law_due : FnScope N_law_due ["node"] (defScope s_law_due) := ⟨rfl, rfl, rfl, by decide +kernel, rfl, by decide +kernel, by decide +kernel⟩
theorem sorted_of {l : List Nat} {n : Nat} (nd : l.Nodup) (h : ∀ x ∈ l, x < n) : ∃ L : List Nat, L.Pairwise (· < ·) ∧ L.Perm l := by
  refine ⟨(List.range n).filter fun x => decide (x ∈ l), List.pairwise_lt_range.filter _, ?_⟩
  refine (List.perm_ext_iff_of_nodup (List.nodup_range.filter _) nd).mpr fun x => ?_
  rw [List.mem_filter, List.mem_range, decide_eq_true_eq]
  exact ⟨fun h => h.2, fun hx => ⟨h x hx, hx⟩⟩
theorem WhatV.nm {N : Addr → Prop} {H : Hp} {v : V} {s : DSort} (h : WhatV N H v s) : ∃ (a : Addr) (xs : List V), v = .ref a ∧ H a = some (.tup (.str s.name :: xs)) := by
  cases h with
  | ap n h => exact ⟨_, _, rfl, h⟩
  | tg n h => exact ⟨_, _, rfl, h⟩
  | pr n h => exact ⟨_, _, rfl, h⟩
theorem pts_sub : ∀ {ks : List Dr} {k : Dr}, k ∈ ks → k.pts.Sublist (ptsDr ks)
  | a :: r, k, h => by
    rw [ptsDr]
    rcases List.mem_cons.mp h with e | h
    · rw [e]
      exact List.sublist_append_left ..
    · exact (pts_sub h).trans (List.sublist_append_right ..)
abbrev DZ := Dr × List Nat × PyData
def TZ (H : Hp) (v : V) (z : DZ) : Prop := TN 40 H v z.2.2
theorem persTZ : PersT TZ := fun _ _ _ _ k h => h.keep k (Nat.le_refl _)
theorem tz_tna {H : Hp} : ∀ {vs : List V} {zs : List DZ}, Paired (TZ H) vs zs → TNA 40 H vs (zs.map (·.2.2))
  | _, _, .nil => .nil
  | _, _, .cons h t => .cons h (tz_tna t)
theorem take_fm {α : Type} (zs : List α) : ∀ n, n ≤ zs.length → (List.range n).filterMap (fun m => zs[m]?) = zs.take n
  | 0, _ => rfl
  | n + 1, h => by
    have e : zs[n]? = some zs[n] := List.getElem?_eq_getElem (by omega)
    rw [List.range_succ, List.filterMap_append, take_fm zs n (by omega), take_next e]
    simp [e]
def hdZ (zs : List DZ) (m : Nat) : Nat := ((zs[m]?).map fun z => z.2.1.headD 0).getD 0
theorem rows_fm (zs : List DZ) : ((List.range zs.length).map fun m => (hdZ zs m, m)).filterMap (fun r => zs[r.2]?) = zs := by
  rw [List.filterMap_map]
  show (List.range zs.length).filterMap (fun m => zs[m]?) = zs
  rw [take_fm zs _ (Nat.le_refl _), List.take_length]
section
variable {P : Program} {w : World} {K : PySem.W.Frag} {mg : Str → Option Value} {base : Heap}
def sp_duet (g G : Nat) : Sp := fun vs H Q _ => ∃ (N : Addr → Prop) (v : V) (d : Dr) (T : Tm), vs = [v] ∧ DrV N H v d ∧ SyT T ∧ DOk T d ∧ d.hgt ≤ g ∧ d.pts.Nodup ∧ (∀ x ∈ d.pts, x < 40) ∧ d.pts.length ≤ G ∧ G ≤ 40 ∧ ∀ (v' : V) (L : List Nat) (D : PyData) (H' : Hp), Same H H' → TN 40 H' v' D → DueR d L D → Q v' H'
theorem cal_duet_step {g k G : Nat} {spR : Sp} (A : At K mg "_law_due" s_law_due) (B : Bi mg) (hgk : 1 + G + 1 ≤ k) (c_law_tree_points : Cal P w K mg base (1 + G + 1) "_law_tree_points" (sp_ltp G)) (c_law_due : Cal P w K mg base k "_law_due" spR) (hR : ∀ j vs H Q E, j + 1 = g → sp_duet j G vs H Q E → spR vs H Q E) : Cal P w K mg base (k + 1) "_law_due" (sp_duet g G) := by
  have nd := sc_law_due.nd
  have c_law_tree_points := c_law_tree_points.mono hgk
  refine A.cal sc_law_due (fun _ _ _ _ _ _ us hl => match us, hl with | [_], _ => rfl) ?_ fun f cdv A' outer s H vs Q E hr h => ⟨_, (pss_cons (ps_if (pt_not (pt_val (pe_callB (call_isiK' (K := K) rfl) (by rfl) B.isinstance (by decide +kernel) (pa_cons (pv 0) (pa_cons (pe_bltn (v := .ty "tuple") (u := .type "tuple") (by rfl) B.tuple (by decide +kernel) rfl) pa_nil))))) (pss_one (ps_ret (pv 0))) pss_nil)
  (pss_cons (ps_set (i := 1) nd rfl (.inr rfl) (pe_lc (own := [("one", 3)]) rfl nd (pi_listK (K := K) rfl (pe_ix (ix_tupK (K := K) rfl) (pv 0) pe_int (fun _ _ => rfl))) (blkOk_by (own := [("one", 3)]) (N := N_law_due) (sc := defScope s_law_due) (by decide +kernel)) (fun _ _ _ _ _ => (pg_name (i := 3) nd rfl (.inl rfl) (.inr rfl))) (fun _ _ _ _ _ => pts_nil) (fun _ _ _ _ _ => (pe_cal c_law_due hr (by first | decide | omega) (by rfl) passL (pa_cons (pv 3) pa_nil)))))
  (pss_cons (ps_set (i := 2) nd rfl (.inl rfl) (pe_callB (cr_sortedSP (K := K) rfl) (by rfl) B.sorted (by decide +kernel) (pa_cons (pe_lc (own := [("k", 4), ("one", 3)]) rfl nd (pi_enumK (K := K) rfl (by rfl) B.enumerate (pa_cons (pv 1) pa_nil)) (blkOk_by (own := [("k", 4), ("one", 3)]) (N := N_law_due) (sc := defScope s_law_due) (by decide +kernel)) (fun _ _ _ _ _ => (pg_tupK (K := K) (n := 2) rfl rfl (pgs_cons (pg_name (i := 4) nd rfl (.inl rfl) (.inr rfl)) (pgs_cons (pg_name (i := 3) nd rfl (.inl rfl) (.inr rfl)) pgs_nil)))) (fun _ _ _ _ _ => pts_nil) (fun _ _ _ _ _ => (pe_tup (pa_cons (pe_ix (ix_listK (K := K) rfl) (pe_cal c_law_tree_points hr (by first | decide | omega) (by rfl) passL (pa_cons (pv 3) pa_nil)) pe_int (fun _ _ => rfl)) (pa_cons (pv 4) pa_nil))))) pa_nil)))
  (pss_one (ps_ret (pe_tup (pa_cons (pe_ix (ix_tupK (K := K) rfl) (pe_ix (ix_tupK (K := K) rfl) (pv 0) pe_int (fun _ _ => rfl)) pe_int (fun _ _ => rfl)) (pa_cons (pe_callTy (call_tuple_ofK (K := K) rfl) (by rfl) B.tuple (by decide +kernel) (pa_cons (pe_lc (own := [("first", 5), ("k", 4)]) rfl nd (pi_listK (K := K) rfl (pv 2)) (blkOk_by (own := [("first", 5), ("k", 4)]) (N := N_law_due) (sc := defScope s_law_due) (by decide +kernel)) (fun _ _ _ _ _ => (pg_tupK (K := K) (n := 2) rfl rfl (pgs_cons (pg_name (i := 5) nd rfl (.inl rfl) (.inr rfl)) (pgs_cons (pg_name (i := 4) nd rfl (.inl rfl) (.inr rfl)) pgs_nil)))) (fun _ _ _ _ _ => pts_nil) (fun _ _ _ _ _ => (pe_ix (ix_listK (K := K) rfl) (pv 1) (pv 4) (fun _ _ => rfl)))) pa_nil)) pa_nil)))))))), ?_⟩
  · rintro vs H Q E ⟨N, v, d, T, rfl, _⟩
    rfl
  · obtain ⟨N, v, d, T, rfl, hv, S, ok, hg, ndp, ltp, lp, hG, q⟩ := h
    have hd : Dp K H v d.dat := hv.dp
    refine ⟨_, rfl, _, .ty "tuple", .type (tyName _), .type "tuple", _, rfl, .ty _, tyX_of hd, kit_ty (kit_isi _ "tuple" (by simp)), ?_⟩
    rw [isi_tuple]
    cases hv with
    | leaf x =>
      rw [Dr.dat]
      exact ⟨_, rfl, iteT ⟨_, rfl, q _ _ _ H (Same.refl H) (.int _) (.leaf x)⟩⟩
    | node n1 h1 hw n2 h2 hus ds =>
      rename_i t l wv us so ks
      rw [Dr.dat]
      refine ⟨_, rfl, iteF ?_⟩
      rw [Dr.pts] at ndp ltp lp
      obtain ⟨j, rfl⟩ : ∃ j, g = j + 1 := ⟨g - 1, by rw [Dr.hgt] at hg; omega⟩
      have hk : ∀ k ∈ ks, k.hgt ≤ j := by rw [Dr.hgt] at hg; exact (hgtDr_le ks).mp (by omega)
      cases ok with
      | node X fit okk =>
        have lks := ds.len
        refine ⟨_, rfl, _, _, _, _, rfl, rfl, SqT.of h1, rfl, l, rfl, ⟨_, SqL.of h2⟩, fun D hD => ?_⟩
        refine turns_it (walk_list (K := K) (a := l) (xs := us)) (fun i H3 => Same H H3 ∧ ∃ (vs : List V) (zs : List DZ), H3 D = some (.lst vs) ∧ Paired (TZ H3) vs zs ∧ zs.map (·.1) = ks.take i ∧ ∀ z ∈ zs, DueR z.1 z.2.1 z.2.2) ⟨same_laid hD, [], [], upd_same, .nil, rfl, fun _ h => nomatch h⟩ (fun i H3 _ ⟨s3, _⟩ => SqL.of (s3 _ _ h2)) ?_ ?_
        · rintro i x H3 H3' hi ⟨s3, vs, zs, hD3, pz, ez, dz⟩ ⟨rfl, hx⟩
          obtain ⟨k, hk1, hk2⟩ := ds.at_ hx
          have hkm := List.mem_of_getElem? hk1
          have sub := pts_sub hkm
          refine ⟨rfl, ?_⟩
          unfold tYes
          dsimp only
          rw [if_pos rfl]
          refine ⟨_, rfl, hR j _ _ _ _ rfl ⟨N, x, k, T, rfl, hk2.keep (fun _ h => h) (KeepN.of s3), S, okk k hkm, hk k hkm, ndp.sublist sub, (fun y hy => ltp y (sub.subset hy)), Nat.le_trans sub.length_le lp, hG, fun v' L D' H4 s4 tn du => ?_⟩⟩
          have et := take_next hk1
          have lz := congrArg List.length ez
          have lv := pz.length
          rw [List.length_map, List.length_take] at lz
          have hD4 := s4 _ _ hD3
          have kt : KeepT H4 (upd H4 D (.lst (vs ++ [v']))) := KeepT.lst hD4
          refine ⟨vs, hD4, sizeBig (by omega), sPut (s3.trans s4) hD, vs ++ [v'], zs ++ [(k, L, D')], upd_same, pApp (pMono persTZ ((sKt s4).trans kt) pz) (.cons (persTZ _ _ _ _ kt tn) .nil), ?_, fun z hz => ?_⟩
          · rw [List.map_append, ez, et]
            rfl
          · rcases List.mem_append.mp hz with h | h
            · exact dz z h
            · rw [List.mem_singleton.mp h]
              exact du
        rintro H3 ⟨s3, vs, zs, hD3, pz, ez, dz⟩
        rw [lks, List.take_length] at ez
        have lz : zs.length = ks.length := by rw [← ez, List.length_map]
        have lv := pz.length
        have memk : ∀ {m : Nat} {z : DZ}, zs[m]? = some z → ks[m]? = some z.1 := fun {m z} h => by rw [← ez, List.getElem?_map, h]; rfl
        have hdin : ∀ {m : Nat} {z : DZ}, zs[m]? = some z → z.2.1 ≠ [] ∧ z.2.1.headD 0 ∈ z.1.pts := fun {m z} h => by
          have pm := (dz z (List.mem_of_getElem? h)).perm
          have ne : z.1.pts ≠ [] := X.ne _ (List.mem_map.mpr ⟨z.1, List.mem_of_getElem? (memk h), rfl⟩)
          cases e : z.2.1 with
          | nil =>
            rw [e] at pm
            exact absurd pm.symm.eq_nil ne
          | cons a r =>
            rw [e] at pm
            exact ⟨by simp, pm.mem_iff.mp (List.mem_cons_self ..)⟩
        refine ⟨_, rfl, D, _, rfl, SqL.of hD3, fun D2 hD2 => ?_⟩
        refine turns_it (walk_enum (K := K) (a := D) (xs := vs)) (fun i H4 => Same H3 H4 ∧ ∃ ws, H4 D2 = some (.lst ws) ∧ Paired (Pr H4) ws ((List.range i).map fun m => (hdZ zs m, m))) ⟨same_laid hD2, [], upd_same, .nil⟩ (fun i H4 _ ⟨s4, _⟩ => SqL.of (s4 _ _ hD3)) ?_ ?_
        · rintro i xv H4 H4' hi ⟨s4, ws, hws, pw⟩ ⟨tt, e1, e2, rfl, nt, rfl, h3, h4⟩
          have e3 : V.int (i : Nat) = e1 := Option.some.inj h3
          subst e3
          obtain ⟨z, hz1, hz2⟩ := pAtL pz h4
          have u4 := same_laid (o := .tup [.int (i : Nat), e2]) nt
          have s5 := s4.trans u4
          have hws5 := u4 _ _ hws
          have pw5 := pMono persPr (sKt u4) pw
          have htt : (upd H4 tt (.tup [.int (i : Nat), e2])) tt = some (.tup [.int (i : Nat), e2]) := upd_same
          generalize (upd H4 tt (.tup [.int (i : Nat), e2])) = H5 at *
          have hzm := List.mem_of_getElem? hz1
          have kz := List.mem_of_getElem? (memk hz1)
          obtain ⟨Ss, mt⟩ := (okk _ kz).mtr S (dz z hzm)
          have lzp : z.2.1.length ≤ G := by
            rw [(dz z hzm).perm.length_eq]
            exact Nat.le_trans (pts_sub kz).length_le lp
          obtain ⟨nez, _⟩ := hdin hz1
          refine ⟨tt, _, rfl, SqT.of htt, rfl, _, _, rfl, _, _, rfl, rfl, rfl, ?_⟩
          unfold tYes
          dsimp only
          rw [if_pos rfl]
          refine ⟨_, rfl, e2, z.2.2, T, z.2.1, Ss, rfl, hz2.keep (sKt s5) (Nat.le_refl _), mt, lzp, by omega, fun r H6 s6 hr6 => ?_⟩
          have at0 : atI (z.2.1.map pI) ((0 : Nat) : Int) = some (pI (z.2.1.headD 0)) := by
            cases e : z.2.1 with
            | nil => exact absurd e nez
            | cons a rr => exact atI_nat rfl
          refine ⟨_, _, _, _, rfl, rfl, SqL.of hr6, at0, _, rfl, by show 2 ≤ sizeLine; decide, fun t6 ht6 => ?_⟩
          have u7 := same_laid (o := .tup [pI (z.2.1.headD 0), .int (i : Nat)]) ht6
          have hws7 := u7 _ _ (s6 _ _ hws5)
          have kt : KeepT _ (upd (upd H6 t6 (.tup [pI (z.2.1.headD 0), .int (i : Nat)])) D2 (.lst (ws ++ [.ref t6]))) := KeepT.lst hws7
          have lw := pw5.length
          rw [List.length_map, List.length_range] at lw
          refine ⟨ws, hws7, sizeBig (by omega), sPut (s5.trans (s6.trans u7)) hD2, ws ++ [.ref t6], upd_same, ?_⟩
          rw [List.range_succ, List.map_append]
          refine pApp (pMono persPr (((sKt s6).trans (sKt u7)).trans kt) pw5) (.cons ⟨t6, rfl, kt _ _ ?_⟩ .nil)
          rw [upd_same]
          show some (HO.tup [pI (z.2.1.headD 0), V.int (i : Nat)]) = some (HO.tup [pI (hdZ zs i), pI i])
          rw [show hdZ zs i = z.2.1.headD 0 by unfold hdZ; rw [hz1]; rfl]
          rfl
        rintro H4 ⟨s4, ws, hws, pw⟩
        refine tnil_in ?_
        refine ⟨D2, ws, _, rfl, .inl (SqL.of hws), pw, fun us2 ys p5 pm so5 pr5 hp5 => ?_⟩
        have u5 := same_laid (o := .lst us2) hp5
        have hp5' : (upd H4 p5 (.lst us2)) p5 = some (.lst us2) := upd_same
        have pr5 := pMono persPr (sKt u5) pr5
        have s5 := s4.trans u5
        generalize (upd H4 p5 (.lst us2)) = H5 at *
        rw [show vs.length = zs.length by omega] at pm
        obtain ⟨wa, wx, rfl, hwa⟩ := hw.nm
        have s05 := s3.trans s5
        refine ⟨_, rfl, _, _, _, _, rfl, rfl, SqT.of (s05 _ _ h1), rfl, _, _, _, _, rfl, rfl, SqT.of (s05 _ _ hwa), (show atI (V.str so.name :: wx) ((0 : Nat) : Int) = some (.str so.name) from atI_nat rfl), ?_⟩
        have ly := pm.length_eq
        rw [List.length_map, List.length_range] at ly
        have lu2 := pr5.length
        have yin : ∀ r ∈ ys, r.2 < zs.length ∧ r.1 = hdZ zs r.2 := fun r hr => by
          obtain ⟨m, hm, e⟩ := List.mem_map.mp (pm.mem_iff.mp hr)
          rw [← e]
          exact ⟨List.mem_range.mp hm, rfl⟩
        refine ⟨_, rfl, p5, rfl, ⟨_, SqL.of hp5'⟩, fun D3 hD3' => ?_⟩
        refine comp_list (K := K) persPr (fun r : Nat × Nat => zs[r.2]?) persTZ hD3' (SqL.of hp5') (sizeBig (by omega)) pr5 ?_ ?_
        · rintro r v H6 Yes No hr ⟨t7, rfl, ht7⟩ s6 yes no
          have e := List.getElem?_eq_getElem (yin r hr).1
          obtain ⟨v7, hv7, tv7⟩ := pAt pz e
          refine ⟨t7, _, rfl, SqT.of ht7, rfl, _, _, rfl, _, _, rfl, rfl, rfl, ?_⟩
          unfold tYes
          dsimp only
          rw [if_pos rfl]
          have s36 := s5.trans s6
          exact ⟨_, rfl, _, rfl, _, _, _, _, rfl, rfl, SqL.of (s36 _ _ hD3), atI_nat hv7, yes _ e v7 _ (Same.refl _) (persTZ _ _ _ _ (sKt s36) tv7)⟩
        intro H6 us3 s6 hD6 pz3
        have pmz : (ys.filterMap fun r => zs[r.2]?).Perm zs := by
          have := pm.filterMap fun r : Nat × Nat => zs[r.2]?
          rwa [rows_fm] at this
        have lz3 := pz3.length
        rw [pmz.length_eq] at lz3
        refine ⟨_, _, rfl, .inl ⟨SqL.of hD6, fun t8 ht8 => ⟨by show 2 ≤ sizeLine; decide, fun t9 ht9 => ?_⟩⟩⟩
        have u8 := same_laid (o := .tup us3) ht8
        have u9 := same_laid (o := .tup [.str so.name, .ref t8]) ht9
        have hlk : ks.length ≤ 40 := by
          have : ks.length ≤ (ptsDr ks).length := by
            rw [ptsDr_eq, List.length_flatten]
            have go : ∀ Ms : List (List Nat), (∀ L ∈ Ms, L ≠ []) → Ms.length ≤ (Ms.map List.length).sum := by
              intro Ms
              induction Ms with
              | nil => exact fun _ => Nat.le_refl _
              | cons A r ih =>
                intro h
                have h1 := ih fun L hL => h L (List.mem_cons_of_mem _ hL)
                have h2 : 0 < A.length := List.length_pos_iff.mpr (h A (List.mem_cons_self ..))
                rw [List.length_cons, List.map_cons, List.sum_cons]
                omega
            have := go _ X.ne
            rwa [List.length_map] at this
          omega
        obtain ⟨L, Ls, Lp⟩ := sorted_of ndp ltp
        have tn := tz_tna (pMono persTZ ((sKt u8).trans (sKt u9)) pz3)
        refine q (.ref t9) L _ _ (s05.trans (s6.trans (u8.trans u9))) (.tup upd_same (by show 2 ≤ 40; decide) (.cons (.str _) (.cons (.tup (u9 _ _ upd_same) (by omega) tn) .nil))) (.node _ ?_ (fun z hz => dz z (pmz.mem_iff.mp hz)) ?_ Ls Lp)
        · have := pmz.map (fun z : DZ => z.1)
          rw [ez] at this
          exact this
        · have ynd : ys.Nodup := pm.nodup_iff.mpr (by
            rw [List.Nodup, List.pairwise_map]
            exact List.nodup_range.imp fun h e => h (Prod.mk.inj e).2)
          rw [List.pairwise_filterMap]
          refine List.Pairwise.imp_of_mem (fun {r r'} hr hr' h z hz z' hz' => ?_) (so5.and ynd)
          obtain ⟨g1, g2⟩ := h
          have hd1 : r.1 = z.2.1.headD 0 := by rw [(yin r hr).2]; unfold hdZ; rw [hz]; rfl
          have hd2 : r'.1 = z'.2.1.headD 0 := by rw [(yin r' hr').2]; unfold hdZ; rw [hz']; rfl
          have p1 : (ks.map Dr.pts)[r.2]? = some z.1.pts := by rw [List.getElem?_map, memk hz]; rfl
          have p2 : (ks.map Dr.pts)[r'.2]? = some z'.1.pts := by rw [List.getElem?_map, memk hz']; rfl
          unfold ltP at g1
          by_cases c : z.2.1.headD 0 = z'.2.1.headD 0
          · have := X.one p1 p2 (hdin hz).2 (by rw [c]; exact (hdin hz').2)
            exact absurd (Prod.ext (by rw [hd1, hd2, c]) this) g2
          · omega
theorem cal_duet {G : Nat} (A : At K mg "_law_due" s_law_due) (B : Bi mg) (c_law_tree_points : Cal P w K mg base (1 + G + 1) "_law_tree_points" (sp_ltp G)) : ∀ g : Nat, Cal P w K mg base (1 + G + 1 + g + 1) "_law_due" (sp_duet g G)
  | 0 => by
    have c0 : Cal P w K mg base (0 + 1) "_law_due" (fun _ _ _ _ => False) := A.cal sc_law_due (fun _ _ _ _ _ _ us hl => match us, hl with | [_], _ => rfl) (fun _ _ _ _ h => h.elim) fun _ _ _ _ _ _ _ _ _ _ h => h.elim
    exact cal_duet_step (g := 0) A B (Nat.le_refl _) c_law_tree_points (c0.mono (by omega)) fun j _ _ _ _ h => absurd h (Nat.succ_ne_zero j)
  | g + 1 => cal_duet_step A B (by omega) c_law_tree_points (cal_duet A B c_law_tree_points g) fun j _ _ _ _ h x => by
    rw [← Nat.succ.inj h]
    exact x
end
end Ns

/-! Own layer: the ties of a drawn tree, spread. -/
namespace Ns
open PySem PySem.Spec PyProof.Rows L2
local macro_rules | `(tactic| walk_at "look") => `(tactic| first | assumption | exact upd_same | (refine (upd_ne (by first | assumption | exact Ne.symm (by assumption))).trans ?_; walk_at "look"))
local macro_rules | `(tactic| walk_at "cond") => `(tactic| first | assumption | omega | (dsimp only; omega) | exact ⟨by omega, by omega⟩ | decide | exact ⟨by decide, by decide, by decide⟩ | exact .inr ⟨by decide, by decide⟩ | exact .inl ⟨by decide, by decide⟩ | exact .inr ⟨by omega, by omega⟩ | exact .inl ⟨by omega, by omega⟩)
local macro_rules | `(tactic| walk_at "rd1") => `(tactic| first
  | refine ⟨_, rfl, ?_⟩
  | refine ⟨_, _, rfl, rfl, ?_⟩
  | refine ⟨rfl, ?_⟩
  | refine ⟨_, _, rfl, rfl, (by walk_at "cond"), ?_⟩
  | refine ⟨_, _, _, _, rfl, rfl, SqL.of (by walk_at "look"), rfl, ?_⟩
  | refine ⟨_, _, _, _, rfl, rfl, SqT.of (by walk_at "look"), rfl, ?_⟩
  | refine ⟨_, _, _, _, rfl, rfl, (by walk_at "look"), rfl, ?_⟩
  | refine .inl ⟨_, rfl, ?_⟩
  | refine ⟨.inl ⟨rfl, _, SqL.of (by walk_at "look")⟩, ?_⟩
  | refine ⟨_, _, rfl, ⟨by omega, by omega, by omega, by omega⟩, ?_⟩
  | refine ⟨_, rfl, (by omega), (by omega), ?_⟩
  | refine And.intro (by walk_at "cond") ?_)
local macro_rules | `(tactic| walk_at "rd") => `(tactic| repeat (walk_at "rd1"))

abbrev N_law_spread : List Str := ["node", "there", "points", "lots", "i", "lot", "j", "x", "y", "one"]
theorem sc_law_spread : FnScope N_law_spread ["node", "there"] (defScope s_law_spread) := ⟨rfl, rfl, rfl, by decide +kernel, rfl, by decide +kernel, by decide +kernel⟩
mutual
/-- the ties that a drawn tree lays, the point drawn first ahead -/
def TieD : Dr → Nat × Nat → Prop
  | .leaf _, _ => False
  | .node s ks, q => tieDs ks q ∨ ∃ (i j : Nat) (Li Lj : List Nat), j < i ∧ (ks.map Dr.pts)[i]? = some Li ∧ (ks.map Dr.pts)[j]? = some Lj ∧ s.R ks.length j i = true ∧ q.1 ∈ Lj ∧ q.2 ∈ Li
def tieDs : List Dr → Nat × Nat → Prop
  | [], _ => False
  | k :: r, q => TieD k q ∨ tieDs r q
end
theorem tieDs_iff {q : Nat × Nat} : ∀ ks : List Dr, tieDs ks q ↔ ∃ k ∈ ks, TieD k q
  | [] => by simp [tieDs]
  | k :: r => by
    rw [tieDs, tieDs_iff r]
    constructor
    · rintro (h | ⟨k', hk, h⟩)
      · exact ⟨k, List.mem_cons_self .., h⟩
      · exact ⟨k', List.mem_cons_of_mem _ hk, h⟩
    · rintro ⟨k', hk, h⟩
      rcases List.mem_cons.mp hk with e | hk
      · rw [← e]
        exact .inl h
      · exact .inr ⟨k', hk, h⟩
theorem tie_pts {q : Nat × Nat} : ∀ (n : Nat) (d : Dr), d.hgt ≤ n → TieD d q → q.1 ∈ d.pts ∧ q.2 ∈ d.pts
  | _, .leaf _, _, h => by rw [TieD] at h; exact h.elim
  | 0, .node s ks, hn, _ => by rw [Dr.hgt] at hn; omega
  | n + 1, .node s ks, hn, h => by
    rw [Dr.hgt] at hn
    rw [TieD, tieDs_iff] at h
    rw [Dr.pts]
    rcases h with ⟨k, hk, h⟩ | ⟨i, j, Li, Lj, _, h1, h2, _, h3, h4⟩
    · obtain ⟨a, b⟩ := tie_pts n k ((hgtDr_le ks).mp (by omega) k hk) h
      exact ⟨(pts_sub hk).subset a, (pts_sub hk).subset b⟩
    · rw [ptsDr_eq]
      exact ⟨List.mem_flatten.mpr ⟨_, List.mem_of_getElem? h2, h3⟩, List.mem_flatten.mpr ⟨_, List.mem_of_getElem? h1, h4⟩⟩
/-- as many trees as the sorts want, everywhere -/
inductive DFit : Dr → Prop
  | leaf (x : Nat) : DFit (.leaf x)
  | node {s : DSort} {ks : List Dr} : s.fit ks → (∀ k, k ∈ ks → DFit k) → DFit (.node s ks)
theorem DFit.ne {d : Dr} (h : DFit d) : d.pts ≠ [] := by
  induction h with
  | leaf x => rw [Dr.pts]; simp
  | node f hk ih =>
    rename_i s ks
    have l2 := DSort.two f
    rw [Dr.pts]
    cases ks with
    | nil => simp at l2
    | cons k r =>
      rw [ptsDr]
      intro e
      exact ih k (List.mem_cons_self ..) (List.append_eq_nil_iff.mp e).1
theorem DFit.ok {T : Tm} (S : SyT T) {d : Dr} (h : DFit d) : d.pts.Nodup → (∀ x ∈ d.pts, ∀ y ∈ d.pts, (T x y = true ↔ TieD d (x, y) ∨ TieD d (y, x))) → DOk T d := by
  induction h with
  | leaf x => exact fun _ _ => .leaf x
  | node f hk ih =>
    rename_i s ks
    intro nd hT
    rw [Dr.pts] at nd hT
    have nd2 := nd
    rw [ptsDr_eq] at nd2
    have hdis := (List.pairwise_flatten.mp nd2).2
    have uniq : ∀ {i j : Nat} {L M : List Nat} {x : Nat}, (ks.map Dr.pts)[i]? = some L → (ks.map Dr.pts)[j]? = some M → x ∈ L → x ∈ M → i = j := fun {i j L M x} hL hM hx hy => by
      obtain ⟨h1, e1⟩ := List.getElem?_eq_some_iff.mp hL
      obtain ⟨h2, e2⟩ := List.getElem?_eq_some_iff.mp hM
      rcases Nat.lt_trichotomy i j with c | c | c
      · exact absurd rfl (List.pairwise_iff_getElem.mp hdis i j h1 h2 c x (by rw [e1]; exact hx) x (by rw [e2]; exact hy))
      · exact c
      · exact absurd rfl (List.pairwise_iff_getElem.mp hdis j i h2 h1 c x (by rw [e2]; exact hy) x (by rw [e1]; exact hx))
    have kat : ∀ {k : Dr}, k ∈ ks → ∃ i, (ks.map Dr.pts)[i]? = some k.pts := fun {k} hk => by
      obtain ⟨i, hi⟩ := List.getElem?_of_mem hk
      exact ⟨i, by rw [List.getElem?_map, hi]; rfl⟩
    have inF : ∀ {i : Nat} {L : List Nat} {x : Nat}, (ks.map Dr.pts)[i]? = some L → x ∈ L → x ∈ ptsDr ks := fun {i L x} h hx => by
      rw [ptsDr_eq]
      exact List.mem_flatten.mpr ⟨_, List.mem_of_getElem? h, hx⟩
    refine .node ⟨by rw [← ptsDr_eq], nd, fun L hL => ?_, s.sy ks.length, fun {i j Li Lj} hi hj ne x hx y hy => ?_⟩ f fun k hkm => ?_
    · obtain ⟨k, hk1, rfl⟩ := List.mem_map.mp hL
      exact (hk k hk1).ne
    · -- between parts: what the sort tells
      have cross : ∀ {a b : Nat} {A B : List Nat} {u v : Nat}, (ks.map Dr.pts)[a]? = some A → (ks.map Dr.pts)[b]? = some B → u ∈ A → v ∈ B → a ≠ b → (TieD (.node s ks) (u, v) ↔ a < b ∧ s.R ks.length a b = true) := fun {a b A B u v} hA hB hu hv nab => by
        rw [TieD, tieDs_iff]
        constructor
        · rintro (⟨k, hk1, h⟩ | ⟨i, j, Li, Lj, lt, h1, h2, h3, h4, h5⟩)
          · obtain ⟨p1, p2⟩ := tie_pts _ k (Nat.le_refl _) h
            obtain ⟨c, hc⟩ := kat hk1
            exact absurd ((uniq hA hc hu p1).trans (uniq hB hc hv p2).symm) nab
          · have e1 := uniq hA h2 hu h4
            have e2 := uniq hB h1 hv h5
            subst e1
            subst e2
            exact ⟨lt, h3⟩
        · rintro ⟨lt, h⟩
          exact .inr ⟨b, a, B, A, lt, hB, hA, h, hu, hv⟩
      rw [Bool.eq_iff_iff, hT x (inF hi hx) y (inF hj hy), cross hi hj hx hy ne, cross hj hi hy hx (Ne.symm ne), s.sy ks.length j i]
      constructor
      · rintro (h | h) <;> exact h.2
      · intro h
        rcases Nat.lt_or_gt_of_ne ne with c | c
        · exact .inl ⟨c, h⟩
        · exact .inr ⟨c, h⟩
    · refine ih k hkm (nd.sublist (pts_sub hkm)) fun x hx y hy => ?_
      obtain ⟨c, hc⟩ := kat hkm
      have inn : ∀ {u v : Nat}, u ∈ k.pts → v ∈ k.pts → (TieD (.node s ks) (u, v) ↔ TieD k (u, v)) := fun {u v} hu hv => by
        rw [TieD, tieDs_iff]
        constructor
        · rintro (⟨k2, hk2, h⟩ | ⟨i, j, Li, Lj, lt, h1, h2, h3, h4, h5⟩)
          · obtain ⟨p1, p2⟩ := tie_pts _ k2 (Nat.le_refl _) h
            obtain ⟨m, hm⟩ := List.getElem?_of_mem hkm
            obtain ⟨m2, hm2⟩ := List.getElem?_of_mem hk2
            have e := uniq (i := m) (j := m2) (by rw [List.getElem?_map, hm]; rfl) (by rw [List.getElem?_map, hm2]; rfl) hu p1
            subst e
            rw [hm] at hm2
            rw [Option.some.inj hm2]
            exact h
          · have e1 := uniq hc h2 hu h4
            have e2 := uniq hc h1 hv h5
            omega
        · exact fun h => .inl ⟨k, hkm, h⟩
      rw [hT x ((pts_sub hkm).subset hx) y ((pts_sub hkm).subset hy), inn hx hy, inn hy hx]
section
variable {P : Program} {w : World} {K : PySem.W.Frag} {mg : Str → Option Value} {base : Heap}
/-- what the sort tells of two parts -/
def RowD (so : DSort) (ks : List Dr) (i j : Nat) (q : Nat × Nat) : Prop := ∃ (Li Lj : List Nat), (ks.map Dr.pts)[i]? = some Li ∧ (ks.map Dr.pts)[j]? = some Lj ∧ so.R ks.length j i = true ∧ q.1 ∈ Lj ∧ q.2 ∈ Li
def CrD (so : DSort) (ks : List Dr) (i : Nat) (q : Nat × Nat) : Prop := ∃ i' j, i' < i ∧ j < i' ∧ RowD so ks i' j q
theorem keys_put {n : Nat} {kv : DT} {S : Nat × Nat → Prop} (ki : KeysIn n kv) (h : ∀ q, hasP kv q = true ↔ S q) {q0 : Nat × Nat} {v : V} (l : q0.1 < n ∧ q0.2 < n) : KeysIn n (putK kv (key q0) v) ∧ ∀ q, hasP (putK kv (key q0) v) q = true ↔ S q ∨ q = q0 := by
  obtain ⟨ks, ka⟩ := ki
  refine ⟨⟨_, ka.put l⟩, fun q => ?_⟩
  rw [hasP_put, Bool.or_eq_true, decide_eq_true_eq, h]
  exact Or.comm
def sp_spread (g n : Nat) : Sp := fun vs H Q _ => ∃ (N : Addr → Prop) (v : V) (d : Dr) (o : Addr) (kvs : DT), vs = [v, .ref o] ∧ DrV N H v d ∧ d.hgt ≤ g ∧ n ≤ 40 ∧ d.pts.Nodup ∧ (∀ x ∈ d.pts, x < n) ∧ H o = some (.dT kvs) ∧ KeysIn n kvs ∧ ∀ (r : Addr) (kvs' : DT) (H' : Hp), (∀ a u, H a = some u → a ≠ o → H' a = some u) → H r = none → H' r = some (.lst (d.pts.map pI)) → H' o = some (.dT kvs') → KeysIn n kvs' → (∀ q, hasP kvs' q = true ↔ hasP kvs q = true ∨ TieD d q) → Q (.ref r) H'
theorem cal_spread_step {g k n : Nat} {spR : Sp} (A : At K mg "_law_spread" s_law_spread) (B : Bi mg) (hk1 : 1 ≤ k) (c_law_are_tied : Cal P w K mg base 1 "_law_are_tied" sp_are_tied) (c_law_spread : Cal P w K mg base k "_law_spread" spR) (hR : ∀ j vs H Q E, j + 1 = g → sp_spread j n vs H Q E → spR vs H Q E) : Cal P w K mg base (k + 1) "_law_spread" (sp_spread g n) := by
  have nd := sc_law_spread.nd
  have c_law_are_tied := c_law_are_tied.mono hk1
  refine A.cal sc_law_spread (fun _ _ _ _ _ _ us hl => match us, hl with | [_, _], _ => rfl) ?_ fun f cdv A' outer s H vs Q E hr h => ⟨_, (pss_cons (ps_if (pt_not (pt_val (pe_callB (call_isiK' (K := K) rfl) (by rfl) B.isinstance (by decide +kernel) (pa_cons (pv 0) (pa_cons (pe_bltn (v := .ty "tuple") (u := .type "tuple") (by rfl) B.tuple (by decide +kernel) rfl) pa_nil))))) (pss_one (ps_ret (pe_lst (pa_cons (pv 0) pa_nil)))) pss_nil)
  (pss_cons (ps_par (i := 2) (j := 3) rfl nd rfl rfl (by decide) rfl rfl (pa_cons (pe_lst pa_nil) (pa_cons (pe_lc (own := [("one", 9)]) rfl nd (pi_listK (K := K) rfl (pe_ix (ix_tupK (K := K) rfl) (pv 0) pe_int (fun _ _ => rfl))) (blkOk_by (own := [("one", 9)]) (N := N_law_spread) (sc := defScope s_law_spread) (by decide +kernel)) (fun _ _ _ _ _ => (pg_name (i := 9) nd rfl (.inl rfl) (.inr rfl))) (fun _ _ _ _ _ => pts_nil) (fun _ _ _ _ _ => (pe_cal c_law_spread hr (by first | decide | omega) (by rfl) passL (pa_cons (pv 9) (pa_cons (pv 1) pa_nil))))) pa_nil)) (by rfl))
  (pss_cons (ps_for passOwn rfl (pi_enumK (K := K) rfl (by rfl) B.enumerate (pa_cons (pv 3) pa_nil)) (pg_tupK (K := K) (n := 2) rfl rfl (pgs_cons (pg_name (i := 4) nd rfl (.inl rfl)) (pgs_cons (pg_name (i := 5) nd rfl (.inl rfl)) pgs_nil))) (pss_cons (ps_for passOwn rfl (pi_range1 (by rfl) B.range (pa_cons (pv 4) pa_nil)) (pg_name (i := 6) nd rfl (.inl rfl)) (pss_one (ps_if (pt_val (pe_cal c_law_are_tied hr (by first | decide | omega) (by rfl) passE (pa_cons (pe_ix (ix_tupK (K := K) rfl) (pv 0) pe_int (fun _ _ => rfl)) (pa_cons (pe_callB (call_lenK (K := K) rfl) (by rfl) B.len (by decide +kernel) (pa_cons (pv 3) pa_nil)) (pa_cons (pv 6) (pa_cons (pv 4) pa_nil)))))) (pss_one (ps_for passOwn rfl (pi_listK (K := K) rfl (pv 5)) (pg_name (i := 7) nd rfl (.inl rfl)) (pss_one (ps_for passOwn rfl (pi_listK (K := K) rfl (pe_ix (ix_listK (K := K) rfl) (pv 3) (pv 6) (fun _ _ => rfl))) (pg_name (i := 8) nd rfl (.inl rfl)) (pss_one (ps_dput (hu_of hr) (pv 1) (pe_tup (pa_cons (pv 8) (pa_cons (pv 7) pa_nil))) pe_bl rfl)))))) pss_nil)))
  (pss_one (ps_set (i := 2) nd rfl (.inl rfl) (pe_op op_cat (pv 2) (pv 5))))))
  (pss_one (ps_ret (pv 2)))))), ?_⟩
  · rintro vs H Q E ⟨N, v, d, o, kvs, rfl, _⟩
    rfl
  · obtain ⟨N, v, d, o, kvs, rfl, hv, hg, hn, ndp, ltp, ho, ki, q⟩ := h
    have hd : Dp K H v d.dat := hv.dp
    refine ⟨_, rfl, _, .ty "tuple", .type (tyName _), .type "tuple", _, rfl, .ty _, tyX_of hd, kit_ty (kit_isi _ "tuple" (by simp)), ?_⟩
    rw [isi_tuple]
    cases hv with
    | leaf x =>
      rw [Dr.dat]
      refine ⟨_, rfl, iteT ⟨_, rfl, by show 1 ≤ sizeLine; decide, fun p hp => ?_⟩⟩
      have u1 := same_laid (o := .lst [pI x]) hp
      refine q p kvs _ (fun a u h _ => u1 a u h) hp (by rw [upd_same, Dr.pts]; rfl) (u1 _ _ ho) ki fun z => ?_
      rw [TieD, or_false]
    | node n1 h1 hw n2 h2 hus ds =>
      rename_i t l wv us so ks
      rw [Dr.dat]
      refine ⟨_, rfl, iteF ?_⟩
      rw [Dr.pts] at ndp ltp
      obtain ⟨j, rfl⟩ : ∃ j, g = j + 1 := ⟨g - 1, by rw [Dr.hgt] at hg; omega⟩
      have hk : ∀ k ∈ ks, k.hgt ≤ j := by rw [Dr.hgt] at hg; exact (hgtDr_le ks).mp (by omega)
      have lks := ds.len
      refine ⟨by show 0 ≤ sizeLine; decide, fun p0 hp0 => ?_⟩
      have u1 := same_laid (o := .lst []) hp0
      have hp1 : (upd H p0 (.lst [])) p0 = some (.lst []) := upd_same
      have h11 := u1 _ _ h1
      have h21 := u1 _ _ h2
      have ho1 := u1 _ _ ho
      have ds1 := ds.keep (N' := N) (fun _ h => h) (KeepN.of u1)
      have n0o : p0 ≠ o := fun e => by rw [e, ho] at hp0; cases hp0
      generalize (upd H p0 (.lst [])) = H1 at *
      refine ⟨_, rfl, _, _, _, _, rfl, rfl, SqT.of h11, rfl, l, rfl, ⟨_, SqL.of h21⟩, fun D hD => ?_⟩
      have nDo : D ≠ o := fun e => by rw [e, ho1] at hD; cases hD
      have nlo : l ≠ o := fun e => by rw [e, ho1] at h21; cases h21
      have nto : t ≠ o := fun e => by rw [e, ho1] at h11; cases h11
      refine turns_it (walk_list (K := K) (a := l) (xs := us)) (fun i H3 => (∀ a u, H1 a = some u → a ≠ o → H3 a = some u) ∧ ∃ (vs : List V) (kv : DT), H3 D = some (.lst vs) ∧ vs.length = i ∧ (∀ m k, m < i → ks[m]? = some k → ∃ r, vs[m]? = some (.ref r) ∧ H3 r = some (.lst (k.pts.map pI)) ∧ r ≠ D ∧ r ≠ o) ∧ H3 o = some (.dT kv) ∧ KeysIn n kv ∧ ∀ q, hasP kv q = true ↔ hasP kvs q = true ∨ ∃ k ∈ ks.take i, TieD k q)
        ⟨fun a u h _ => same_laid hD a u h, [], kvs, upd_same, rfl, fun m k h => absurd h (Nat.not_lt_zero _), same_laid hD _ _ ho1, ki, fun q => by simp⟩ (fun i H3 _ ⟨s3, _⟩ => SqL.of (s3 _ _ h21 nlo)) ?_ ?_
      · rintro i x H3 H3' hi ⟨s3, vs, kv, hD3, lv, hl3, ho3, ki3, hq3⟩ ⟨rfl, hx⟩
        obtain ⟨k, hk1, hk2⟩ := ds1.at_ hx
        have hkm := List.mem_of_getElem? hk1
        have sub := pts_sub hkm
        have kN : KeepN N H1 H3' := fun a u _ h nd => s3 a u h fun e => by
          rw [e, ho1] at h
          exact nd _ (Option.some.inj h).symm
        refine ⟨rfl, ?_⟩
        unfold tYes
        dsimp only
        rw [if_pos rfl]
        refine ⟨_, rfl, _, rfl, hR j _ _ _ _ rfl ⟨N, x, k, o, kv, rfl, hk2.keep (fun _ h => h) kN, hk k hkm, hn, ndp.sublist sub, (fun y hy => ltp y (sub.subset hy)), ho3, ki3, fun r kv' H4 s4 nr hr ho4 ki4 hq4 => ?_⟩⟩
        have hD4 := s4 _ _ hD3 nDo
        have nrD : r ≠ D := fun e => by rw [e, hD3] at nr; cases nr
        have nro : r ≠ o := fun e => by rw [e, ho3] at nr; cases nr
        refine ⟨vs, hD4, sizeBig (by omega), fun a u h ne => ?_, vs ++ [.ref r], kv', upd_same, by rw [List.length_append, List.length_singleton, lv], fun m k' hm hk' => ?_, by rw [upd_ne (Ne.symm nDo)]; exact ho4, ki4, fun q => ?_⟩
        · have nad : a ≠ D := fun e => by rw [e, hD] at h; cases h
          rw [upd_ne nad]
          exact s4 _ _ (s3 _ _ h ne) ne
        · by_cases c : m < i
          · obtain ⟨r', e1, e2, e3, e4⟩ := hl3 m k' c hk'
            refine ⟨r', ?_, ?_, e3, e4⟩
            · rw [List.getElem?_append_left (by omega)]
              exact e1
            · rw [upd_ne e3]
              exact s4 _ _ e2 e4
          · have em : m = i := by omega
            subst em
            rw [hk1] at hk'
            cases hk'
            refine ⟨r, ?_, ?_, nrD, nro⟩
            · rw [List.getElem?_append_right (by omega), lv, Nat.sub_self]
              rfl
            · rw [upd_ne nrD]
              exact hr
        · rw [hq4, hq3, take_next hk1]
          constructor
          · rintro ((h | ⟨k', h1, h2⟩) | h)
            · exact .inl h
            · exact .inr ⟨k', List.mem_append_left _ h1, h2⟩
            · exact .inr ⟨k, List.mem_append_right _ (List.mem_singleton.mpr rfl), h⟩
          · rintro (h | ⟨k', h1, h2⟩)
            · exact .inl (.inl h)
            · rcases List.mem_append.mp h1 with h1 | h1
              · exact .inl (.inr ⟨k', h1, h2⟩)
              · rw [List.mem_singleton.mp h1] at h2
                exact .inr h2
      rintro H3 ⟨s3, vs, kv, hD3, lv, hl3, ho3, ki3, hq3⟩
      rw [lks] at lv
      have hq3 : ∀ q, hasP kv q = true ↔ hasP kvs q = true ∨ tieDs ks q := fun q => by
        rw [hq3, lks, List.take_length, tieDs_iff]
      have hl3 : ∀ (m : Nat) (k : Dr), ks[m]? = some k → ∃ r : Addr, vs[m]? = some (V.ref r) ∧ H3 r = some (.lst (k.pts.map pI)) ∧ r ≠ o := fun m k h => by
        obtain ⟨r, e1, e2, _, e4⟩ := hl3 m k (by rw [lks]; exact (List.getElem?_eq_some_iff.mp h).1) h
        exact ⟨r, e1, e2, e4⟩
      have hp3 := s3 _ _ hp1 n0o
      have h13 := s3 _ _ h11 nto
      have hw1 : ∃ wa xs, wv = .ref wa ∧ H1 wa = some (.tup xs) := by
        obtain ⟨wa, xs, e, h⟩ := hw.nm
        exact ⟨wa, _, e, u1 _ _ h⟩
      have hwK : ∀ H', (∀ a u, H3 a = some u → a ≠ o → H' a = some u) → WhatV N H' wv so := fun H' k' => hw.keep (fun _ h => h) fun a u _ h nd => by
        have nao : a ≠ o := fun e => by
          rw [e, ho] at h
          exact nd _ (Option.some.inj h).symm
        exact k' _ _ (s3 _ _ (u1 _ _ h) nao) nao
      refine ⟨_, _, rfl, _, rfl, D, _, rfl, SqL.of hD3, ?_⟩
      refine for_it (walk_enum (K := K) (a := D) (xs := vs)) (fun i σ H4 => ∃ (pp : Addr) (v4 v5 v6 v7 v8 : Option V) (kw : DT), σ = [some (.ref t), some (.ref o), some (.ref pp), some (.ref D), v4, v5, v6, v7, v8, none] ∧ (∀ a u, H3 a = some u → a ≠ o → H4 a = some u) ∧ pp ≠ o ∧ H4 pp = some (.lst ((ptsDr (ks.take i)).map pI)) ∧ H4 o = some (.dT kw) ∧ KeysIn n kw ∧ (H pp = none) ∧ ∀ q, hasP kw q = true ↔ (hasP kvs q = true ∨ tieDs ks q) ∨ CrD so ks i q) ⟨p0, none, none, none, none, none, kv, rfl, fun a u h _ => h, n0o, hp3, ho3, ki3, hp0, fun q => by rw [hq3]; exact ⟨.inl, fun h => h.resolve_right fun ⟨i', _, h, _⟩ => absurd h (Nat.not_lt_zero _)⟩⟩ (fun i H4 σ _ ⟨_, _, _, _, _, _, _, _, s4, _⟩ => SqL.of (s4 _ _ hD3 nDo)) ?_ ?_
      · rintro i xv σ H4 H4' hi ⟨pp, v4, v5, v6, v7, v8, kw, rfl, s4, npo, hpp4, ho4, ki4, hpn, hq4⟩ ⟨tt, e1, e2, rfl, nt, rfl, h3, h4⟩
        rw [lv] at hi
        have e3 : V.int (i : Nat) = e1 := Option.some.inj h3
        subst e3
        have eki := List.getElem?_eq_getElem hi
        obtain ⟨r, hr1, hr2, hr3⟩ := hl3 i _ eki
        have e4 : V.ref r = e2 := by have h4 : vs[i]? = some e2 := h4; rw [hr1] at h4; exact Option.some.inj h4
        subst e4
        have u5 := same_laid (o := .tup [.int (i : Nat), .ref r]) nt
        have htt : (upd H4 tt (.tup [.int (i : Nat), .ref r])) tt = some (.tup [.int (i : Nat), .ref r]) := upd_same
        have s5 : ∀ a u, H3 a = some u → a ≠ o → (upd H4 tt (.tup [.int (i : Nat), .ref r])) a = some u := fun a u h ne => u5 _ _ (s4 a u h ne)
        have hpp5 := u5 _ _ hpp4
        have ho5 := u5 _ _ ho4
        generalize (upd H4 tt (.tup [.int (i : Nat), .ref r])) = H5 at *
        generalize ek : ks[i] = k at *
        have kpi : (ks.map Dr.pts)[i]? = some k.pts := by rw [List.getElem?_map, eki]; rfl
        have hkm := List.mem_of_getElem? eki
        have ltk : ∀ x ∈ k.pts, x < n := fun x hx => ltp x ((pts_sub hkm).subset hx)
        refine ⟨tt, _, rfl, SqT.of htt, rfl, _, _, rfl, _, _, rfl, rfl, ?_⟩
        refine ⟨_, rfl, (i : Int), rfl, by omega, by omega, ?_⟩
        refine for_range (lo := 0) (n := i) (fun j σ H6 => ∃ (v6 v7 v8 : Option V) (kw : DT), σ = [some (.ref t), some (.ref o), some (.ref pp), some (.ref D), some (pI i), some (.ref r), v6, v7, v8, none] ∧ (∀ a u, H5 a = some u → a ≠ o → H6 a = some u) ∧ H6 o = some (.dT kw) ∧ KeysIn n kw ∧ ∀ q, hasP kw q = true ↔ ((hasP kvs q = true ∨ tieDs ks q) ∨ CrD so ks i q) ∨ ∃ j', j' < j ∧ RowD so ks i j' q) ⟨v6, v7, v8, kw, rfl, fun a u h _ => h, ho5, ki4, fun q => by rw [hq4]; exact ⟨.inl, fun h => h.resolve_right fun ⟨_, h, _⟩ => absurd h (Nat.not_lt_zero _)⟩⟩ ?_ ?_
        · rintro j σ H6 hj ⟨v6, v7, v8, kw, rfl, s6, ho6, ki6, hq6⟩
          have s36 : ∀ a u, H3 a = some u → a ≠ o → H6 a = some u := fun a u h ne => s6 _ _ (s5 a u h ne) ne
          have hD6 := s36 _ _ hD3 nDo
          have h16 := s36 _ _ h13 nto
          have lvi : (vs.length : Nat) = ks.length := lv
          refine ⟨_, rfl, _, _, _, _, rfl, rfl, SqT.of h16, rfl, _, rfl, _, _, rfl, .inl ⟨_, SqL.of hD6, rfl⟩, ?_⟩
          rw [lvi]
          refine ⟨_, rfl, _, rfl, N, wv, so, ks.length, j, i, by rw [Int.zero_add]; rfl, hwK _ s36, hj, hi, _, rfl, ifB (fun c => ?_) (fun c => ?_)⟩
          · have ekj := List.getElem?_eq_getElem (show j < ks.length by omega)
            obtain ⟨rj, hrj1, hrj2, hrj3⟩ := hl3 j _ ekj
            generalize ks[j] = kj at ekj hrj2
            have kpj : (ks.map Dr.pts)[j]? = some kj.pts := by rw [List.getElem?_map, ekj]; rfl
            have ltj : ∀ x ∈ kj.pts, x < n := fun x hx => ltp x ((pts_sub (List.mem_of_getElem? ekj)).subset hx)
            refine ⟨_, rfl, r, rfl, ⟨_, SqL.of (s36 _ _ hr2 hr3)⟩, ?_⟩
            refine for_list (K := K) (a := r) (xs := k.pts.map pI) (fun a σ H7 => ∃ (v7 v8 : Option V) (kw : DT), σ = [some (.ref t), some (.ref o), some (.ref pp), some (.ref D), some (pI i), some (.ref r), some (pI j), v7, v8, none] ∧ (∀ a u, H5 a = some u → a ≠ o → H7 a = some u) ∧ H7 o = some (.dT kw) ∧ KeysIn n kw ∧ ∀ q, hasP kw q = true ↔ (((hasP kvs q = true ∨ tieDs ks q) ∨ CrD so ks i q) ∨ ∃ j', j' < j ∧ RowD so ks i j' q) ∨ (q.1 ∈ kj.pts ∧ q.2 ∈ k.pts.take a)) ⟨v7, v8, kw, by rw [Int.zero_add]; rfl, s6, ho6, ki6, fun q => by rw [hq6]; exact ⟨.inl, fun h => h.resolve_right fun h => by simp at h⟩⟩ (fun a σ H7 _ ⟨_, _, _, _, s7, _⟩ => SqL.of (s7 _ _ (s5 _ _ hr2 hr3) hr3)) ?_ ?_
            · rintro a xv σ H7 hx ⟨v7, v8, kw, rfl, s7, ho7, ki7, hq7⟩
              obtain ⟨x, hx1, rfl⟩ := map_at hx
              have hxn := ltk x (List.mem_of_getElem? hx1)
              have s37 : ∀ a u, H3 a = some u → a ≠ o → H7 a = some u := fun a u h ne => s7 _ _ (s5 a u h ne) ne
              refine ⟨_, rfl, _, rfl, _, _, _, _, rfl, rfl, SqL.of (s37 _ _ hD3 nDo), atI_nat hrj1, rj, rfl, ⟨_, SqL.of (s37 _ _ hrj2 hrj3)⟩, ?_⟩
              refine for_list (K := K) (a := rj) (xs := kj.pts.map pI) (fun b σ H8 => ∃ (v8 : Option V) (kw : DT), σ = [some (.ref t), some (.ref o), some (.ref pp), some (.ref D), some (pI i), some (.ref r), some (pI j), some (pI x), v8, none] ∧ (∀ a u, H5 a = some u → a ≠ o → H8 a = some u) ∧ H8 o = some (.dT kw) ∧ KeysIn n kw ∧ ∀ q, hasP kw q = true ↔ ((((hasP kvs q = true ∨ tieDs ks q) ∨ CrD so ks i q) ∨ ∃ j', j' < j ∧ RowD so ks i j' q) ∨ (q.1 ∈ kj.pts ∧ q.2 ∈ k.pts.take a)) ∨ (q.1 ∈ kj.pts.take b ∧ q.2 = x)) ⟨v8, kw, rfl, s7, ho7, ki7, fun q => by rw [hq7]; exact ⟨.inl, fun h => h.resolve_right fun h => by simp at h⟩⟩ (fun b σ H8 _ ⟨_, _, _, s8, _⟩ => SqL.of (s8 _ _ (s5 _ _ hrj2 hrj3) hrj3)) ?_ ?_
              · rintro b yv σ H8 hy ⟨v8, kw, rfl, s8, ho8, ki8, hq8⟩
                obtain ⟨y, hy1, rfl⟩ := map_at hy
                have hyn := ltj y (List.mem_of_getElem? hy1)
                refine ⟨_, rfl, _, rfl, _, rfl, by show 2 ≤ sizeLine; decide, fun t9 ht9 => ⟨o, _, rfl, dputP (x := (y, x)) (by rw [upd_ne (ne_of_none ho8 ht9)]; exact ho8) upd_same rfl rfl (keys_small ki8 (by omega)), ?_⟩⟩
                obtain ⟨k9, q9⟩ := keys_put (v := .bl true) (q0 := (y, x)) ki8 hq8 ⟨hyn, hxn⟩
                refine ⟨_, _, rfl, fun a u h ne => ?_, upd_same, k9, fun q => ?_⟩
                · have h8 := s8 a u h ne
                  rw [upd_ne ne, upd_ne (ne_of_none h8 ht9)]
                  exact h8
                · rw [q9, or_assoc, take_next hy1, List.mem_append, List.mem_singleton]
                  refine or_congr_right ⟨?_, ?_⟩
                  · rintro (⟨h1, h2⟩ | h)
                    · exact ⟨.inl h1, h2⟩
                    · rw [h]
                      exact ⟨.inr rfl, rfl⟩
                  · rintro ⟨h1 | h1, h2⟩
                    · exact .inl ⟨h1, h2⟩
                    · exact .inr (Prod.ext h1 h2)
              · rintro σ H8 ⟨v8, kw, rfl, s8, ho8, ki8, hq8⟩
                rw [List.length_map, List.take_length] at hq8
                refine ⟨_, _, _, rfl, s8, ho8, ki8, fun q => ?_⟩
                rw [hq8, or_assoc, take_next hx1, List.mem_append, List.mem_singleton]
                refine or_congr_right ⟨?_, ?_⟩
                · rintro (⟨h1, h2⟩ | ⟨h1, h2⟩)
                  · exact ⟨h1, .inl h2⟩
                  · exact ⟨h1, .inr h2⟩
                · rintro ⟨h1, h2 | h2⟩
                  · exact .inl ⟨h1, h2⟩
                  · exact .inr ⟨h1, h2⟩
            · rintro σ H7 ⟨v7, v8, kw, rfl, s7, ho7, ki7, hq7⟩
              rw [List.length_map, List.take_length] at hq7
              refine ⟨_, _, _, _, rfl, s7, ho7, ki7, fun q => ?_⟩
              rw [hq7, or_assoc]
              refine or_congr_right ⟨?_, ?_⟩
              · rintro (⟨j', h1, h2⟩ | ⟨h1, h2⟩)
                · exact ⟨j', by omega, h2⟩
                · exact ⟨j, by omega, k.pts, kj.pts, kpi, kpj, c, h1, h2⟩
              · rintro ⟨j', h1, h2⟩
                by_cases e : j' = j
                · subst e
                  obtain ⟨Li, Lj, g1, g2, g3, g4, g5⟩ := h2
                  rw [kpi] at g1
                  rw [kpj] at g2
                  cases g1
                  cases g2
                  exact .inr ⟨g4, g5⟩
                · exact .inl ⟨j', by omega, h2⟩
          · refine ⟨_, _, _, _, rfl, s6, ho6, ki6, fun q => ?_⟩
            rw [hq6]
            refine or_congr_right ⟨?_, ?_⟩
            · rintro ⟨j', h1, h2⟩
              exact ⟨j', by omega, h2⟩
            · rintro ⟨j', h1, h2⟩
              by_cases e : j' = j
              · subst e
                obtain ⟨Li, Lj, g1, g2, g3, g4, g5⟩ := h2
                rw [c] at g3
                cases g3
              · exact ⟨j', by omega, h2⟩
        · rintro σ H6 ⟨v6, v7, v8, kw, rfl, s6, ho6, ki6, hq6⟩
          have npo2 := npo
          have hpp6 := s6 _ _ hpp5 npo
          have hr6 := s6 _ _ (s5 _ _ hr2 hr3) hr3
          have lp1 : (ptsDr ks).length ≤ 40 := Nat.le_trans (by
            have := sub_len (ptsDr ks) (List.range n) ndp fun x hx => List.mem_range.mpr (ltp x hx)
            rwa [List.length_range] at this) hn
          have lk2 : k.pts.length ≤ 40 := Nat.le_trans (pts_sub hkm).length_le lp1
          have lt1 : (ptsDr (ks.take i)).length ≤ (ptsDr ks).length := by
            have e := congrArg (fun z : List Dr => (ptsDr z).length) (List.take_append_drop i ks)
            have e : (ptsDr (ks.take i ++ ks.drop i)).length = (ptsDr ks).length := e
            rw [ptsDr_eq, List.map_append, List.flatten_append, List.length_append, ← ptsDr_eq] at e
            omega
          have et := take_next eki
          refine ⟨_, rfl, _, rfl, pp, r, _, _, rfl, rfl, hpp6, hr6, by rw [List.length_map, List.length_map]; exact Nat.le_of_lt (sizeBig (by omega)), fun p9 hp9 => ?_⟩
          have u9 := same_laid (o := .lst ((ptsDr (ks.take i)).map pI ++ k.pts.map pI)) hp9
          refine ⟨p9, _, _, _, _, _, kw, rfl, fun a u h ne => u9 _ _ (s6 _ _ (s5 a u h ne) ne), fun e => ?_, ?_, u9 _ _ ho6, ki6, ?_, fun q => ?_⟩
          · rw [e, ho6] at hp9
            cases hp9
          · rw [upd_same, et, ptsDr_eq, ptsDr_eq, List.map_append, List.flatten_append, List.map_append]
            simp
          · cases e : H p9 with
            | none => rfl
            | some u =>
              have n9 : p9 ≠ o := fun e => by rw [e, ho6] at hp9; cases hp9
              rw [s6 _ _ (s5 _ _ (s3 _ _ (u1 _ _ e) n9) n9) n9] at hp9
              cases hp9
          · rw [hq6, or_assoc]
            refine or_congr_right ⟨?_, ?_⟩
            · rintro (⟨i', j', h1, h2⟩ | ⟨j', h1, h2⟩)
              · exact ⟨i', j', by omega, h2⟩
              · exact ⟨i, j', by omega, h1, h2⟩
            · rintro ⟨i', j', g1, g2, g3⟩
              by_cases e : i' = i
              · rw [e] at g2 g3
                exact .inr ⟨j', g2, g3⟩
              · exact .inl ⟨i', j', by omega, g2, g3⟩
      · rintro σ H4 ⟨pp, v4, v5, v6, v7, v8, kw, rfl, s4, npo, hpp4, ho4, ki4, hpn, hq4⟩
        rw [lv, List.take_length] at hpp4
        rw [lv] at hq4
        refine ⟨_, rfl, q pp kw H4 (fun a u h ne => s4 _ _ (s3 _ _ (u1 _ _ h) ne) ne) hpn (by rw [Dr.pts]; exact hpp4) ho4 ki4 fun z => ?_⟩
        rw [hq4, TieD, or_assoc]
        refine or_congr_right (or_congr_right ⟨?_, ?_⟩)
        · rintro ⟨i', j', _, h2, Li, Lj, h3, h4, h5, h6, h7⟩
          exact ⟨i', j', Li, Lj, h2, h3, h4, h5, h6, h7⟩
        · rintro ⟨i', j', Li, Lj, h2, h3, h4, h5, h6, h7⟩
          have := (List.getElem?_eq_some_iff.mp h3).1
          rw [List.length_map] at this
          exact ⟨i', j', this, h2, Li, Lj, h3, h4, h5, h6, h7⟩
theorem cal_spread {n : Nat} (A : At K mg "_law_spread" s_law_spread) (B : Bi mg) (c_law_are_tied : Cal P w K mg base 1 "_law_are_tied" sp_are_tied) : ∀ g : Nat, Cal P w K mg base (1 + g + 1) "_law_spread" (sp_spread g n)
  | 0 => by
    have c0 : Cal P w K mg base (0 + 1) "_law_spread" (fun _ _ _ _ => False) := A.cal sc_law_spread (fun _ _ _ _ _ _ us hl => match us, hl with | [_, _], _ => rfl) (fun _ _ _ _ h => h.elim) fun _ _ _ _ _ _ _ _ _ _ h => h.elim
    exact cal_spread_step (g := 0) A B (Nat.le_refl _) c_law_are_tied c0 fun j _ _ _ _ h => absurd h (Nat.succ_ne_zero j)
  | g + 1 => cal_spread_step A B (by omega) c_law_are_tied (cal_spread A B c_law_are_tied g) fun j _ _ _ _ h x => by
    rw [← Nat.succ.inj h]
    exact x
end
end Ns

/-! Own layer: a cut, left at any state that M tells (not beside F22D, which holds the same). -/
namespace Ns
open PySem PySem.Spec PyProof.Rows L2
theorem cut_midU {t u : TS} {D : Ends} {σ : L2.St} {H : Hp} (M : L2.St → Hp → Prop) (h : t { D with nx := M } σ H) (g : ∀ σ' H', M σ' H' → u D σ' H') : C8.tCut t u D σ H := ⟨M, h, g⟩
end Ns

/-! Own layer: trees drawn. -/
--CUTX _law_drawn_tree
namespace Ns
open PySem PySem.Spec PyProof.Rows L2
local macro_rules | `(tactic| walk_at "look") => `(tactic| first | assumption | exact upd_same | (refine (upd_ne (by first | assumption | exact Ne.symm (by assumption))).trans ?_; walk_at "look"))
local macro_rules | `(tactic| walk_at "cond") => `(tactic| first | assumption | omega | (dsimp only; omega) | exact ⟨by omega, by omega⟩ | decide | exact ⟨by decide, by decide, by decide⟩ | exact .inr ⟨by decide, by decide⟩ | exact .inl ⟨by decide, by decide⟩ | exact .inr ⟨by omega, by omega⟩ | exact .inl ⟨by omega, by omega⟩)
local macro_rules | `(tactic| walk_at "rd1") => `(tactic| first
  | refine ⟨_, rfl, ?_⟩
  | refine ⟨_, _, rfl, rfl, ?_⟩
  | refine ⟨rfl, ?_⟩
  | refine ⟨_, _, rfl, rfl, (by walk_at "cond"), ?_⟩
  | refine ⟨_, _, _, _, rfl, rfl, SqL.of (by walk_at "look"), rfl, ?_⟩
  | refine ⟨_, _, _, _, rfl, rfl, SqT.of (by walk_at "look"), rfl, ?_⟩
  | refine ⟨_, _, _, _, rfl, rfl, (by walk_at "look"), rfl, ?_⟩
  | refine .inl ⟨_, rfl, ?_⟩
  | refine ⟨.inl ⟨rfl, _, SqL.of (by walk_at "look")⟩, ?_⟩
  | refine ⟨_, _, rfl, ⟨by omega, by omega, by omega, by omega⟩, ?_⟩
  | refine ⟨_, rfl, (by omega), (by omega), ?_⟩
  | refine And.intro (by walk_at "cond") ?_)
local macro_rules | `(tactic| walk_at "rd") => `(tactic| repeat (walk_at "rd1"))

abbrev N_law_drawn_tree : List Str := ["box", "points", "ahead", "sorts", "menu", "what", "least", "many", "ends", "turn", "at", "trees", "size", "sort"]
theorem sc_law_drawn_tree : FnScope N_law_drawn_tree ["box", "points", "ahead"] (defScope s_law_drawn_tree) := ⟨rfl, rfl, rfl, by decide +kernel, rfl, by decide +kernel, by decide +kernel⟩
theorem cutV_mid (xs : List Nat) {a n : Nat} (h : a + n ≤ xs.length) : cutV (xs.map pI) (some (a : Int)) (some ((a : Int) + (n : Int))) = ((xs.drop a).take n).map pI := by
  unfold cutV
  rw [show (a : Int) + (n : Int) = ((a + n : Nat) : Int) by omega, HT.sIx_nat, HT.sIx_nat, List.length_map, Nat.min_eq_left (by omega), Nat.min_eq_left (by omega), ← List.map_drop, ← List.map_take]
  congr 2
  omega
theorem sum_take_le : ∀ (es : List Nat) (i : Nat), (es.take i).sum ≤ es.sum
  | [], i => by simp
  | a :: r, 0 => by simp
  | a :: r, i + 1 => by
    rw [List.take_succ_cons, List.sum_cons, List.sum_cons]
    have := sum_take_le r i
    omega
theorem sum_len : ∀ (es : List Nat), (∀ e ∈ es, 1 ≤ e) → es.length ≤ es.sum
  | [], _ => Nat.le_refl _
  | a :: r, h => by
    have h1 := sum_len r fun e he => h e (List.mem_cons_of_mem _ he)
    have h2 := h a (List.mem_cons_self ..)
    rw [List.length_cons, List.sum_cons]
    omega
theorem le_sum_mem : ∀ (es : List Nat) {x : Nat}, x ∈ es → x ≤ es.sum
  | a :: r, x, h => by
    rw [List.sum_cons]
    rcases List.mem_cons.mp h with e | h
    · omega
    · have := le_sum_mem r h
      omega
theorem sum_one : ∀ (es : List Nat) {i x : Nat}, 2 ≤ es.length → (∀ e ∈ es, 1 ≤ e) → es[i]? = some x → x + 1 ≤ es.sum
  | [], i, x, h, _, _ => by simp at h
  | a :: r, 0, x, h, one, hx => by
    have e : a = x := Option.some.inj hx
    have h1 := sum_len r fun e he => one e (List.mem_cons_of_mem _ he)
    rw [List.length_cons] at h
    rw [List.sum_cons]
    omega
  | a :: r, i + 1, x, h, one, hx => by
    have h2 := one a (List.mem_cons_self ..)
    have hm : x ∈ r := List.mem_of_getElem? (show r[i]? = some x from hx)
    have h3 : x ≤ r.sum := le_sum_mem r hm
    rw [List.sum_cons]
    omega
theorem sum_set1 : ∀ (es : List Nat) (j : Nat) (h : j < es.length), (es.set j (es[j] + 1)).sum = es.sum + 1
  | a :: r, 0, h => by
    rw [List.set_cons_zero, List.sum_cons, List.sum_cons, List.getElem_cons_zero]
    omega
  | a :: r, j + 1, h => by
    rw [List.set_cons_succ, List.sum_cons, List.sum_cons, List.getElem_cons_succ, sum_set1 r j (by simpa using h)]
    omega
/-- a sort's name is not what stands ahead -/
def notAhead (ahead : Str) (d : Dr) : Prop := (ahead = "apart" → ∀ l, d ≠ .node .ap l) ∧ (ahead = "together" → ∀ l, d ≠ .node .tg l)
section
variable {P : Program} {w : World} {K : PySem.W.Frag} {mg : Str → Option Value} {base : Heap}
def sp_drawn (g : Nat) : Sp := fun vs H Q _ => ∃ (b l pa : Addr) (ps : List Nat) (ahead : Str), vs = [.ref b, .ref pa, .str ahead] ∧ Box H b l ∧ H pa = some (.lst (ps.map pI)) ∧ pa ≠ b ∧ ps ≠ [] ∧ ps.length ≤ g + 1 ∧ ps.length ≤ 14 ∧ ∀ (v : V) (d : Dr) (H' : Hp), DrV (fun a => H a = none) H' v d → DFit d → d.pts = ps → d.hgt ≤ g → notAhead ahead d → Kp b l H H' → Q v H'
theorem cal_drawn_step {g k : Nat} {spR : Sp} (A : At K mg "_law_drawn_tree" s_law_drawn_tree) (B : Bi mg) (hk2 : 2 ≤ k) (c_law_take : Cal P w K mg base 1 "_law_take" sp_take) (c_law_pick : Cal P w K mg base 2 "_law_pick" (sp_pick K)) (c_law_prime : Cal P w K mg base 2 "_law_prime" sp_prime) (c_law_drawn_tree : Cal P w K mg base k "_law_drawn_tree" spR) (hR : ∀ j vs H Q E, j + 1 = g → sp_drawn j vs H Q E → spR vs H Q E) : Cal P w K mg base (k + 1) "_law_drawn_tree" (sp_drawn g) := by
  have nd := sc_law_drawn_tree.nd
  have c_law_take := c_law_take.mono (show 1 ≤ k by omega)
  have c_law_pick := c_law_pick.mono hk2
  have c_law_prime := c_law_prime.mono hk2
  refine A.cal sc_law_drawn_tree (fun _ _ _ _ _ _ us hl => match us, hl with | [_, _, _], _ => rfl) ?_ fun f cdv A' outer s H vs Q E hr h => ⟨_, (pss_cons (ps_if (pt_cmpR op_eq (pe_callB (call_lenK (K := K) rfl) (by rfl) B.len (by decide +kernel) (pa_cons (pv 1) pa_nil)) pe_int (nomark _)) (pss_one (ps_ret (pe_ix (ix_listK (K := K) rfl) (pv 1) pe_int (fun _ _ => rfl)))) pss_nil)
  (pss_cons (ps_set (i := 3) nd rfl (.inl rfl) (pe_lst (pa_cons (pe_tup (pa_cons pe_str pa_nil)) (pa_cons (pe_tup (pa_cons pe_str pa_nil)) pa_nil))))
  (pss_cons (ps_set (i := 4) nd rfl (.inl rfl) (pe_op op_cat (pe_lc (own := [("sort", 13)]) rfl nd (pi_listK (K := K) rfl (pv 3)) (blkOk_by (own := [("sort", 13)]) (N := N_law_drawn_tree) (sc := defScope s_law_drawn_tree) (by decide +kernel)) (fun _ _ _ _ _ => (pg_name (i := 13) nd rfl (.inl rfl) (.inr rfl))) (fun _ _ _ _ _ => (pts_one (pt_cmpR op_ne (pe_ix (ix_tupK (K := K) rfl) (pv 13) pe_int (fun _ _ => rfl)) (pv 2) (nomark _)))) (fun _ _ _ _ _ => (pv 13))) (pe_ifExp (pt_cmpR op_gt (pe_callB (call_lenK (K := K) rfl) (by rfl) B.len (by decide +kernel) (pa_cons (pv 1) pa_nil)) pe_int (nomark _)) (pe_lst (pa_cons pe_str pa_nil)) (pe_lst pa_nil))))
  (pss_cons (ps_set (i := 5) nd rfl (.inl rfl) (pe_cal c_law_pick hr (by first | decide | omega) (by rfl) passE (pa_cons (pv 0) (pa_cons (pv 4) pa_nil))))
  (C8.pss_cut (ps_set (i := 6) nd rfl (.inl rfl) (pe_ifExp (pt_cmpR (op_eqDK (K := K) rfl hr.units) (pv 5) pe_str (nomark _)) pe_int pe_int))
  (pss_cons (ps_set (i := 7) nd rfl (.inl rfl) (pe_op op_add (pv 6) (pe_cal c_law_take hr (by first | decide | omega) (by rfl) passE (pa_cons (pv 0) (pa_cons (pe_op op_add (pe_op op_sub (pe_callB (call_min2 rfl) (by rfl) B.min (by decide +kernel) (pa_cons (pe_callB (call_lenK (K := K) rfl) (by rfl) B.len (by decide +kernel) (pa_cons (pv 1) pa_nil)) (pa_cons pe_int pa_nil))) (pv 6)) pe_int) pa_nil)))))
  (C8.pss_cut (ps_if (pt_cmpR (op_eqDK (K := K) rfl hr.units) (pv 5) pe_str (nomark _)) (pss_one (ps_set (i := 5) nd rfl (.inl rfl) (pe_cal c_law_prime hr (by first | decide | omega) (by rfl) passE (pa_cons (pv 0) (pa_cons (pv 7) pa_nil))))) pss_nil)
  (pss_cons (ps_set (i := 8) nd rfl (.inl rfl) (pe_op op_rep (pe_lst (pa_cons pe_int pa_nil)) (pv 7)))
  (pss_cons (ps_for passOwn rfl (pi_range1 (by rfl) B.range (pa_cons (pe_op op_sub (pe_callB (call_lenK (K := K) rfl) (by rfl) B.len (by decide +kernel) (pa_cons (pv 1) pa_nil)) (pv 7)) pa_nil)) (pg_name (i := 9) nd rfl (.inl rfl)) (pss_cons (ps_set (i := 10) nd rfl (.inl rfl) (pe_cal c_law_take hr (by first | decide | omega) (by rfl) passE (pa_cons (pv 0) (pa_cons (pv 7) pa_nil))))
  (pss_one (ps_asg (pe_op op_add (pe_ix (ix_listK (K := K) rfl) (pv 8) (pv 10) (fun _ _ => rfl)) pe_int) (pg_sub (pv 8) (pv 10) set_list)))))
  (pss_cons (ps_par (i := 11) (j := 10) rfl nd rfl rfl (by decide) rfl rfl (pa_cons (pe_lst pa_nil) (pa_cons pe_int pa_nil)) (by rfl))
  (pss_cons (ps_for passOwn rfl (pi_listK (K := K) rfl (pv 8)) (pg_name (i := 12) nd rfl (.inl rfl)) (pss_cons (ps_expr (pe_bm PySem.F.plainAttrs_list PySem.F.slot_list_append PySem.F.type_list_append mt_append (pv 11) (pa_cons (pe_cal c_law_drawn_tree hr (by first | decide | omega) (by rfl) passE (pa_cons (pv 0) (pa_cons (pe_slice (sl_listK (K := K) rfl) (pv 1) (po_some (pv 10)) (po_some (pe_op op_add (pv 10) (pv 12)))) (pa_cons (pe_ix (ix_seqK (K := K) rfl) (pv 5) pe_int (fun _ _ => rfl)) pa_nil)))) pa_nil)))
  (pss_one (ps_set (i := 10) nd rfl (.inl rfl) (pe_op op_add (pv 10) (pv 12))))))
  (pss_one (ps_ret (pe_tup (pa_cons (pv 5) (pa_cons (pv 11) pa_nil)))))))))))))))), ?_⟩
  · rintro vs H Q E ⟨b, l, pa, ps, ahead, rfl, _⟩
    rfl
  · obtain ⟨b, l, pa, ps, ahead, rfl, hb, hpa, npb, hne, hg, h14, q⟩ := h
    have lps : (ps.map pI).length = ps.length := List.length_map _
    refine ⟨_, rfl, _, _, rfl, .inl ⟨_, SqL.of hpa, rfl⟩, rfl, _, rfl, ifI (fun c => ?_) (fun c => ?_)⟩
    · have l1 : ps.length = 1 := by omega
      obtain ⟨x, rfl⟩ := List.length_eq_one_iff.mp l1
      refine ⟨_, rfl, _, _, _, _, rfl, rfl, SqL.of hpa, (show atI ([x].map pI) ((0 : Nat) : Int) = some (pI x) from atI_nat rfl), ?_⟩
      exact q _ _ H (.leaf x) (.leaf x) (by rw [Dr.pts]) (by rw [Dr.hgt]; omega) ⟨(fun _ _ h => nomatch h), fun _ _ h => nomatch h⟩ (Kp.refl hb)
    have l2 : 2 ≤ ps.length := by
      have : ps.length ≠ 0 := fun e => hne (List.eq_nil_of_length_eq_zero e)
      omega
    refine ⟨by show 1 ≤ sizeLine; decide, fun t1 ht1 => ⟨by show 1 ≤ sizeLine; decide, fun t2 ht2 => ⟨by show 2 ≤ sizeLine; decide, fun so hso => ?_⟩⟩⟩
    have u1 := same_laid (o := .tup [.str "apart"]) ht1
    have u2 := same_laid (o := .tup [.str "together"]) ht2
    have u3 := same_laid (o := .lst [.ref t1, .ref t2]) hso
    have n1 : H t1 = none := ht1
    have n2 : H t2 = none := gone u1 ht2
    have s3 := u1.trans (u2.trans u3)
    have h1 : (upd (upd (upd H t1 (.tup [.str "apart"])) t2 (.tup [.str "together"])) so (.lst [.ref t1, .ref t2])) t1 = some (.tup [.str "apart"]) := u3 _ _ (u2 _ _ upd_same)
    have h2 : (upd (upd (upd H t1 (.tup [.str "apart"])) t2 (.tup [.str "together"])) so (.lst [.ref t1, .ref t2])) t2 = some (.tup [.str "together"]) := u3 _ _ upd_same
    have h3 : (upd (upd (upd H t1 (.tup [.str "apart"])) t2 (.tup [.str "together"])) so (.lst [.ref t1, .ref t2])) so = some (.lst [.ref t1, .ref t2]) := upd_same
    generalize (upd (upd (upd H t1 (.tup [.str "apart"])) t2 (.tup [.str "together"])) so (.lst [.ref t1, .ref t2])) = H3 at *
    refine ⟨_, rfl, so, rfl, ⟨_, SqL.of h3⟩, fun D hD => ?_⟩
    have hpa3 := s3 _ _ hpa
    have hb3 := hb.same s3
    let Rs : Hp → V → DSort → Prop := fun H v s => (s = .ap ∧ v = .ref t1 ∧ H t1 = some (.tup [.str "apart"])) ∨ (s = .tg ∧ v = .ref t2 ∧ H t2 = some (.tup [.str "together"]))
    have persR : PersT Rs := fun _ _ _ _ k h => h.elim (fun ⟨a, b, c⟩ => .inl ⟨a, b, k _ _ c⟩) fun ⟨a, b, c⟩ => .inr ⟨a, b, k _ _ c⟩
    refine comp_list (K := K) (ds := [DSort.ap, DSort.tg]) (R := Rs) persR (fun s => if s.name = ahead then none else some s) persR hD (SqL.of h3) (sizeBig (by simp)) (.cons (.inl ⟨rfl, rfl, h1⟩) (.cons (.inr ⟨rfl, rfl, h2⟩) .nil)) ?_ ?_
    · rintro s v H4 Yes No hs hv s4 yes no
      have hn : ∃ w, v = .ref w ∧ H4 w = some (.tup [.str s.name]) := by
        rcases hv with ⟨rfl, e, h⟩ | ⟨rfl, e, h⟩ <;> exact ⟨_, e, h⟩
      obtain ⟨w, e, h⟩ := hn
      subst e
      refine ⟨rfl, _, rfl, _, _, _, _, rfl, rfl, SqT.of h, (show atI [V.str s.name] ((0 : Nat) : Int) = some (.str s.name) from atI_nat rfl), _, rfl, rfl, _, rfl, ?_⟩
      by_cases c : s.name = ahead
      · rw [decide_eq_true (congrArg V.str c)]
        exact iteF (no (if_pos c) _ (Same.refl _))
      · rw [decide_eq_false (fun e => c (V.str.inj e))]
        exact iteT ⟨_, rfl, yes s (if_neg c) _ _ (Same.refl _) hv⟩
    intro H4 es s4 hD4 pr4
    have hpa4 := s4 _ _ hpa3
    have key : ∀ Q2 : VK, (∀ (m2 : Addr) (ys : List V) (H5 : Hp), Same H4 H5 → H5 m2 = some (.lst ys) → (∀ y ∈ ys, y = .str "prime" ∧ 3 < ps.length) → ys.length ≤ 1 → Q2 (.ref m2) H5) →
        tIf (tTest (tOp (rI0 fun i j => V.bl (decide (j < i))) (tCB (rLenK K) (tCons (tVar 1) tNil)) (tC (V.int 3)))) (tLst (tCons (tC (V.str "prime")) tNil)) (tLst tNil) [some (.ref b), some (.ref pa), some (.str ahead), some (.ref so), none, none, none, none, none, none, none, none, none, none] H4 Q2 := by
      intro Q2 hQ
      refine ⟨_, rfl, _, _, rfl, .inl ⟨_, SqL.of hpa4, rfl⟩, _, _, rfl, rfl, _, rfl, ifD (fun c => ?_) (fun c => ?_)⟩
      · refine ⟨by show 1 ≤ sizeLine; decide, fun m2 hm2 => hQ m2 _ _ (same_laid hm2) upd_same (fun y hy => ?_) (by simp)⟩
        rw [List.mem_singleton.mp hy]
        exact ⟨rfl, by omega⟩
      · exact ⟨by show 0 ≤ sizeLine; decide, fun m2 hm2 => hQ m2 _ _ (same_laid hm2) upd_same (fun y hy => nomatch hy) (by simp)⟩
    refine key _ fun m2 ys H5 s5 hm2 hys lys => ?_
    have hD5 := s5 _ _ hD4
    have les := pr4.length
    refine ⟨D, m2, _, _, rfl, rfl, hD5, hm2, ?_, fun mm hmm => ?_⟩
    · have := List.length_filterMap_le (fun s : DSort => if s.name = ahead then none else some s) [DSort.ap, DSort.tg]
      simp only [List.length_cons, List.length_nil] at this
      exact Nat.le_of_lt (sizeBig (by omega))
    have u6 := same_laid (o := .lst (es ++ ys)) hmm
    have hmm6 : (upd H5 mm (.lst (es ++ ys))) mm = some (.lst (es ++ ys)) := upd_same
    have s36 := s4.trans (s5.trans u6)
    have s6 := s3.trans s36
    have hb6 := hb.same s6
    have h16 := s36 _ _ h1
    have h26 := s36 _ _ h2
    have hpa6 := s6 _ _ hpa
    have nmb : mm ≠ b := fun e => by
      obtain ⟨c0, c1, c2, ns', g1, _, _⟩ := hb.same (s3.trans (s4.trans s5))
      rw [e, g1] at hmm
      cases hmm
    have hin : ∀ v ∈ es ++ ys, (v = .ref t1 ∧ ahead ≠ "apart") ∨ (v = .ref t2 ∧ ahead ≠ "together") ∨ (v = .str "prime" ∧ 3 < ps.length) := fun v hv => by
      rcases List.mem_append.mp hv with h | h
      · obtain ⟨i, hi⟩ := List.getElem?_of_mem h
        obtain ⟨s, hs, rs⟩ := pAtL pr4 hi
        obtain ⟨s', hs', e⟩ := List.mem_filterMap.mp (List.mem_of_getElem? hs)
        by_cases c : s'.name = ahead
        · rw [if_pos c] at e
          cases e
        · rw [if_neg c] at e
          cases e
          rcases rs with ⟨e, e2, _⟩ | ⟨e, e2, _⟩
          · subst e
            exact .inl ⟨e2, fun h => c h.symm⟩
          · subst e
            exact .inr (.inl ⟨e2, fun h => c h.symm⟩)
      · exact .inr (.inr (hys v h))
    have hne2 : es ++ ys ≠ [] := fun e => by
      have e1 := (List.append_eq_nil_iff.mp e).1
      rw [e1] at pr4
      have : ([DSort.ap, DSort.tg].filterMap fun s : DSort => if s.name = ahead then none else some s) = [] := by
        cases h : ([DSort.ap, DSort.tg].filterMap fun s : DSort => if s.name = ahead then none else some s) with
        | nil => rfl
        | cons a r => rw [h] at pr4; cases pr4
      have q1 := List.filterMap_eq_nil_iff.mp this .ap (by simp)
      have q2 := List.filterMap_eq_nil_iff.mp this .tg (by simp)
      by_cases c1 : DSort.ap.name = ahead
      · by_cases c2 : DSort.tg.name = ahead
        · exact absurd (c1.trans c2.symm) (by decide)
        · rw [if_neg c2] at q2
          cases q2
      · rw [if_neg c1] at q1
        cases q1
    have les2 : (es ++ ys).length ≤ 3 := by
      have := List.length_filterMap_le (fun s : DSort => if s.name = ahead then none else some s) [DSort.ap, DSort.tg]
      simp only [List.length_cons, List.length_nil] at this
      rw [List.length_append]
      omega
    generalize (upd H5 mm (.lst (es ++ ys))) = H6 at *
    refine ⟨_, rfl, _, rfl, b, l, mm, es ++ ys, rfl, hb6, .inl ⟨hmm6, nmb⟩, hne2, by omega, fun v H7 hv k7 => ?_⟩
    have n1b : t1 ≠ b := fun e => by
      obtain ⟨c0, c1, c2, ns', g1, _, _⟩ := hb6
      rw [e, g1] at h16
      cases h16
    have n2b : t2 ≠ b := fun e => by
      obtain ⟨c0, c1, c2, ns', g1, _, _⟩ := hb6
      rw [e, g1] at h26
      cases h26
    have h17 := k7.same _ _ h16 n1b
    have h27 := k7.same _ _ h26 n2b
    have hpa7 := k7.same _ _ hpa6 npb
    have kH7 : Kp b l H H7 := ⟨fun a o h n => k7.same _ _ (s6 _ _ h) n, k7.box⟩
    have what : (v = .str "prime" ∧ 3 < ps.length) ∨ ∃ (w : Addr) (s : DSort), v = .ref w ∧ H w = none ∧ (s = .ap ∧ ahead ≠ "apart" ∨ s = .tg ∧ ahead ≠ "together") ∧ H7 w = some (.tup [.str s.name]) := by
      rcases hin v hv with ⟨e, h⟩ | ⟨e, h⟩ | h
      · exact .inr ⟨t1, .ap, e, n1, .inl ⟨rfl, h⟩, h17⟩
      · exact .inr ⟨t2, .tg, e, n2, .inr ⟨rfl, h⟩, h27⟩
      · exact .inl h
    refine cut_midU (fun σ' H' => ∃ le : Nat, σ' = [some (.ref b), some (.ref pa), some (.str ahead), some (.ref so), some (.ref mm), some v, some (pI le), none, none, none, none, none, none, none] ∧ H' = H7 ∧ (le = 4 ∧ v = .str "prime" ∧ 3 < ps.length ∨ le = 2 ∧ ∃ (w : Addr) (s : DSort), v = .ref w ∧ H w = none ∧ (s = .ap ∧ ahead ≠ "apart" ∨ s = .tg ∧ ahead ≠ "together") ∧ H7 w = some (.tup [.str s.name]))) ?_ ?_
    · rcases what with ⟨e, h⟩ | ⟨w, s, e, hw0, hs, hw7⟩
      · subst e
        exact ⟨_, rfl, .str "prime", .str "prime", .str _, .str _, by decide +kernel, by decide +kernel, _, rfl, iteT ⟨4, rfl, rfl, .inl ⟨rfl, rfl, h⟩⟩⟩
      · subst e
        have sh : SeqAt.shaped (.tuple [.str s.name]) = true := by rcases hs with ⟨e, _⟩ | ⟨e, _⟩ <;> subst e <;> decide +kernel
        exact ⟨_, rfl, .tuple [.str s.name], .str "prime", .tup (SqT.of hw7) (.cons (.str _) .nil), .str _, sh, by decide +kernel, _, rfl, iteF ⟨2, rfl, rfl, .inr ⟨rfl, w, s, rfl, hw0, hs, hw7⟩⟩⟩
    rintro σ' H' ⟨le, rfl, rfl, hle⟩
    obtain ⟨mi, emi, mi7, mil, mi2⟩ : ∃ mi : Nat, (if (7 : Int) < ((ps.map pI).length : Nat) then (7 : Int) else ((ps.map pI).length : Nat)) = (mi : Int) ∧ mi ≤ 7 ∧ mi ≤ ps.length ∧ (mi = 7 ∨ mi = ps.length) := by
      rw [lps]
      by_cases c : 7 < ps.length
      · exact ⟨7, by rw [if_pos (by omega)]; rfl, by omega, by omega, .inl rfl⟩
      · exact ⟨ps.length, by rw [if_neg (by omega)], by omega, by omega, .inr rfl⟩
    have lemi : 2 ≤ le ∧ le ≤ mi := by
      rcases hle with ⟨e, _, h⟩ | ⟨e, _⟩ <;> omega
    refine ⟨_, rfl, _, rfl, _, rfl, _, _, rfl, .inl ⟨_, SqL.of hpa7, rfl⟩, _, _, rfl, ?_⟩
    rw [emi]
    refine ⟨_, rfl, _, _, rfl, rfl, _, _, rfl, rfl, b, l, ((mi : Int) - (le : Int) + 1), rfl, k7.box, by omega, by omega, fun rr H8 r0 r1 k8 => ⟨_, _, rfl, rfl, ?_⟩⟩
    obtain ⟨many, em⟩ : ∃ many : Nat, (le : Int) + rr = (many : Int) := ⟨((le : Int) + rr).toNat, by omega⟩
    rw [show (fun i j : Int => V.int (i + j)) (le : Int) rr = pI many from congrArg V.int em]
    have hpa8 := k8.same _ _ hpa7 npb
    have kH8 : Kp b l H H8 := kH7.trans k8
    -- the sort
    refine cut_midU (fun σ' H' => ∃ (wv : V) (s : DSort), σ' = [some (.ref b), some (.ref pa), some (.str ahead), some (.ref so), some (.ref mm), some wv, some (pI le), some (pI many), none, none, none, none, none, none] ∧ Kp b l H H' ∧ Kp b l H8 H' ∧ WhatV (fun a => H a = none) H' wv s ∧ (s = .ap ∧ ahead ≠ "apart" ∨ s = .tg ∧ ahead ≠ "together" ∨ ∃ r t, s = .pr r t ∧ 4 ≤ many ∧ (r = true → 5 ≤ many))) ?_ ?_
    · rcases hle with ⟨e, ev, h⟩ | ⟨e, w, s, ev, hw0, hs, hw7⟩
      · subst ev
        refine ⟨_, rfl, .str "prime", .str "prime", .str _, .str _, by decide +kernel, by decide +kernel, _, rfl, iteT ⟨_, rfl, _, rfl, b, l, many, rfl, k8.box, fun t ring turned H9 h5 nt ht k9 => ?_⟩⟩
        exact ⟨.ref t, .pr ring turned, rfl, kH8.trans k9, k9, .pr (kH8.free hb nt) ht, .inr (.inr ⟨ring, turned, rfl, by omega, h5⟩)⟩
      · subst ev
        have nwb : w ≠ b := fun e => by
          obtain ⟨c0, c1, c2, ns', g1, _, _⟩ := hb
          rw [e, g1] at hw0
          cases hw0
        have hw8 := k8.same _ _ hw7 nwb
        have sh : SeqAt.shaped (.tuple [.str s.name]) = true := by rcases hs with ⟨e, _⟩ | ⟨e, _⟩ <;> subst e <;> decide +kernel
        refine ⟨_, rfl, .tuple [.str s.name], .str "prime", .tup (SqT.of hw8) (.cons (.str _) .nil), .str _, sh, by decide +kernel, _, rfl, iteF ⟨.ref w, s, rfl, kH8, Kp.refl k8.box, ?_, ?_⟩⟩
        · rcases hs with ⟨e, _⟩ | ⟨e, _⟩ <;> subst e
          · exact .ap hw0 hw8
          · exact .tg hw0 hw8
        · rcases hs with h | h
          · exact .inl h
          · exact .inr (.inl h)
    rintro σ' H9 ⟨wv, s, rfl, kH9, k9, hw, hs⟩
    have hpa9 := k9.same _ _ hpa8 npb
    have m2 : 2 ≤ many ∧ many ≤ ps.length := by omega
    refine ⟨by show 1 ≤ sizeLine; decide, fun p0 hp0 => ⟨_, rfl, p0, many, _, rfl, rfl, upd_same, by omega, by omega, ?_, fun en hen => ?_⟩⟩
    · show 1 * (many : Int).toNat ≤ _
      exact Nat.le_of_lt (sizeBig (by omega))
    have u10 := (same_laid (o := .lst [.int 1]) hp0).trans (same_laid (o := .lst ((List.replicate ((many : Int).toNat) [V.int 1]).flatten)) hen)
    have hen9 : H9 en = none := gone (same_laid (o := .lst [.int 1]) hp0) hen
    have hen10 : (upd (upd H9 p0 (.lst [.int 1])) en (.lst ((List.replicate ((many : Int).toNat) [V.int 1]).flatten))) en = some (.lst ((List.replicate many 1).map pI)) := by
      rw [upd_same, Int.toNat_natCast]
      congr 2
      generalize many = m
      induction m with
      | zero => rfl
      | succ m ih => rw [List.replicate_succ, List.flatten_cons, ih, List.replicate_succ, List.map_cons]; rfl
    have k10 := (Kp.refl kH9.box).then u10
    generalize (upd (upd H9 p0 (.lst [.int 1])) en (.lst ((List.replicate ((many : Int).toNat) [V.int 1]).flatten))) = H10 at *
    refine ⟨_, rfl, _, _, rfl, .inl ⟨_, SqL.of (k10.same _ _ hpa9 npb), rfl⟩, ?_⟩
    rw [lps]
    refine ⟨_, rfl, _, _, rfl, rfl, ((ps.length : Int) - (many : Int)), rfl, by omega, by omega, ?_⟩
    refine for_range (lo := 0) (n := ((ps.length : Int) - (many : Int)).toNat) (fun i σ H' => ∃ (v9 v10 : Option V) (es : List Nat), σ = [some (.ref b), some (.ref pa), some (.str ahead), some (.ref so), some (.ref mm), some wv, some (pI le), some (pI many), some (.ref en), v9, v10, none, none, none] ∧ Kp b l H9 H' ∧ H' en = some (.lst (es.map pI)) ∧ es.length = many ∧ es.sum = many + i ∧ ∀ e ∈ es, 1 ≤ e) ⟨none, none, List.replicate many 1, rfl, k10, hen10, List.length_replicate .., by rw [List.sum_replicate_nat, Nat.mul_one]; rfl, fun e he => by rw [(List.mem_replicate.mp he).2]; exact Nat.le_refl _⟩ ?_ ?_
    · rintro i σ H' hi ⟨v9, v10, es, rfl, k', hes, les, ses, one⟩
      refine ⟨_, rfl, _, rfl, b, l, (many : Int), rfl, k'.box, by omega, by omega, fun at_ H2 a0 a1 k2 => ?_⟩
      have nenb : en ≠ b := fun e => by
        obtain ⟨c0, c1, c2, ns', g1, _, _⟩ := kH9.box
        rw [e, g1] at hen9
        cases hen9
      have hes2 := k2.same _ _ hes nenb
      obtain ⟨aj, rfl⟩ : ∃ aj : Nat, at_ = aj := ⟨at_.toNat, by omega⟩
      have haj : aj < es.length := by omega
      have eat : (es.map pI)[aj]? = some (pI es[aj]) := by rw [List.getElem?_map, List.getElem?_eq_getElem haj]; rfl
      refine ⟨_, rfl, _, rfl, _, _, _, _, rfl, rfl, SqL.of hes2, atI_nat eat, _, _, rfl, rfl, ?_⟩
      have ex : ixN (es.map pI).length (aj : Int) = some aj := by
        rw [List.length_map]
        unfold ixN
        simp
        omega
      refine ⟨_, rfl, _, rfl, en, es.map pI, aj, aj, rfl, rfl, hes2, ex, _, _, es.set aj (es[aj] + 1), rfl, Kp.put kH9.box (k'.trans k2) hen9, ?_, by rw [List.length_set]; exact les, ?_, fun e he => ?_⟩
      · rw [upd_same, List.map_set]
        rfl
      · rw [sum_set1 _ _ haj, ses]
        omega
      · rcases List.mem_or_eq_of_mem_set he with h | h
        · exact one e h
        · omega
    · rintro σ H' ⟨v9, v10, es, rfl, k', hes, les, ses, one⟩
      have ses : es.sum = ps.length := by omega
      have nenb : en ≠ b := fun e => by
        obtain ⟨c0, c1, c2, ns', g1, _, _⟩ := kH9.box
        rw [e, g1] at hen9
        cases hen9
      have kHH : Kp b l H H' := kH9.trans k'
      have hpaE := k'.same _ _ hpa9 npb
      obtain ⟨j, rfl⟩ : ∃ j, g = j + 1 := ⟨g - 1, by omega⟩
      refine ⟨by show 0 ≤ sizeLine; decide, fun tr htr => ⟨_, _, rfl, ?_⟩⟩
      have u11 := same_laid (o := .lst []) htr
      have nb11 : Kp b l H' (upd H' tr (.lst [])) := (Kp.refl k'.box).then u11
      have htr11 : (upd H' tr (.lst [])) tr = some (.lst []) := upd_same
      have hes11 := u11 _ _ hes
      generalize (upd H' tr (.lst [])) = H11 at *
      refine ⟨_, rfl, en, rfl, ⟨_, SqL.of hes11⟩, ?_⟩
      refine for_list (K := K) (a := en) (xs := es.map pI) (fun i σ H2 => ∃ (v12 : Option V) (us : List V) (ds : List Dr), σ = [some (.ref b), some (.ref pa), some (.str ahead), some (.ref so), some (.ref mm), some wv, some (pI le), some (pI many), some (.ref en), v9, some (pI (es.take i).sum), some (.ref tr), v12, none] ∧ Kp b l H' H2 ∧ H2 tr = some (.lst us) ∧ DrVs (fun a => H' a = none ∧ a ≠ tr) H2 us ds ∧ us.length = i ∧ ptsDr ds = ps.take (es.take i).sum ∧ ∀ d ∈ ds, DFit d ∧ d.hgt ≤ j ∧ notAhead s.name d) ⟨none, [], [], rfl, nb11, htr11, .nil, rfl, by rw [ptsDr]; simp, fun _ h => nomatch h⟩ (fun i σ H2 _ ⟨_, _, _, _, k2, _⟩ => SqL.of (k2.same _ _ hes nenb)) ?_ ?_
      · rintro i yv σ H2 hy ⟨v12, us, ds, rfl, k2, htr2, dv, lus, ep, all⟩
        obtain ⟨sz, hsz, rfl⟩ := map_at hy
        refine ⟨_, rfl, .inl ⟨rfl, _, SqL.of htr2⟩, _, rfl, _, rfl, _, rfl, _, rfl, _, rfl, _, rfl, _, _, rfl, rfl, _, rfl, pa, _, rfl, SqL.of (k2.same _ _ hpaE npb), fun p9 hp9 => ?_⟩
        have szm := List.mem_of_getElem? hsz
        have sz1 := one sz szm
        have stk : (es.take (i + 1)).sum = (es.take i).sum + sz := by rw [take_next hsz, List.sum_append, List.sum_singleton]
        have sle : (es.take (i + 1)).sum ≤ ps.length := by rw [← ses]; exact sum_take_le _ _
        have szle := sum_one es (by omega) one hsz
        rw [cutV_mid ps (by omega)]
        have u9 := same_laid (o := .lst (((ps.drop (es.take i).sum).take sz).map pI)) hp9
        have hp9' : (upd H2 p9 (.lst (((ps.drop (es.take i).sum).take sz).map pI))) p9 = some (.lst (((ps.drop (es.take i).sum).take sz).map pI)) := upd_same
        have n9b : p9 ≠ b := fun e => by
          obtain ⟨c0, c1, c2, ns', g1, _, _⟩ := k2.box
          rw [e, g1] at hp9
          cases hp9
        have htr9 := u9 _ _ htr2
        have k9' := k2.then u9
        have dv9 := dv.keep (N' := fun a => H' a = none ∧ a ≠ tr) (fun _ h => h) (KeepN.of u9)
        generalize (upd H2 p9 (.lst (((ps.drop (es.take i).sum).take sz).map pI))) = H12 at *
        obtain ⟨wa, wx, ewv, hwa⟩ := hw.nm
        subst ewv
        have nwb : wa ≠ b := fun e => by
          obtain ⟨c0, c1, c2, ns', g1, _, _⟩ := kH9.box
          rw [e, g1] at hwa
          cases hwa
        have hwa12 := k9'.same _ _ (k'.same _ _ hwa nwb) nwb
        have lsub : ((ps.drop (es.take i).sum).take sz).length = sz := by rw [List.length_take, List.length_drop]; omega
        refine ⟨_, rfl, .inr (.inl ⟨_, _, _, _, rfl, rfl, SqT.of hwa12, (show atI (V.str s.name :: wx) ((0 : Nat) : Int) = some (.str s.name) from atI_nat rfl), ?_⟩)⟩
        refine hR j _ _ _ _ rfl ⟨b, l, p9, (ps.drop (es.take i).sum).take sz, s.name, rfl, k9'.box, hp9', n9b, (fun e => by rw [e] at lsub; simp at lsub; omega), by omega, by omega, fun v d H4 dr fit ed hh na k4 => ?_⟩
        have ntrb : tr ≠ b := fun e => by
          obtain ⟨c0, c1, c2, ns', g1, _, _⟩ := k'.box
          rw [e, g1] at htr
          cases htr
        have htr4 := k4.same _ _ htr9 ntrb
        have k24 := k9'.trans k4
        have hie := (List.getElem?_eq_some_iff.mp hsz).1
        have bOf : ∀ a, H' a = none → a ≠ b := fun a h e => by
          obtain ⟨c0, c1, c2, ns', g1, _, _⟩ := k'.box
          rw [e, g1] at h
          cases h
        have keepU : ∀ {N : Addr → Prop} {Hx Hy : Hp} (x : List V), (∀ a, N a → a ≠ b ∧ a ≠ tr) → (∀ a o, Hx a = some o → a ≠ b → Hy a = some o) → KeepN N Hx (upd Hy tr (.lst x)) := fun {N Hx Hy} x hn k a u na h _ => by
          rw [upd_ne (hn a na).2]
          exact k a u h (hn a na).1
        refine ⟨tr, us, v, rfl, rfl, htr4, sizeBig (by omega), ?_⟩
        refine ⟨_, rfl, _, rfl, _, _, rfl, rfl, some (pI sz), us ++ [v], ds ++ [d], ?_, Kp.put k'.box k24 htr, upd_same, DrVs.snoc (dv9.keep (fun _ h => h) (keepU _ (fun a h => ⟨bOf a h.1, h.2⟩) k4.same)) (dr.keep (fun a h => ⟨k9'.free k'.box h, fun e => by rw [e, htr9] at h; cases h⟩) (keepU _ (fun a h => ⟨bOf a (k9'.free k'.box h), fun e => by rw [e, htr9] at h; cases h⟩) fun a o h _ => h)), by rw [List.length_append, lus]; rfl, ?_, fun d' hd' => ?_⟩
        · rw [stk]
          rfl
        · rw [ptsDr_eq, List.map_append, List.flatten_append, ← ptsDr_eq, ep, stk, List.take_add]
          simp [ed]
        · rcases List.mem_append.mp hd' with h | h
          · exact all d' h
          · rw [List.mem_singleton.mp h]
            exact ⟨fit, hh, na⟩
      · rintro σ H2 ⟨v12, us, ds, rfl, k2, htr2, dv, lus, ep, all⟩
        rw [List.length_map] at lus ep
        rw [List.take_length, ses, List.take_length] at ep
        refine ⟨_, rfl, _, rfl, by show 2 ≤ sizeLine; decide, fun t ht => ?_⟩
        have ut := same_laid (o := .tup [wv, .ref tr]) ht
        have kF : Kp b l H H2 := kHH.trans k2
        have tr0 : H tr = none := kHH.free hb htr
        have hw2 := hw.keep (N' := fun a => H a = none) (fun _ h => h) (H' := upd H2 t (.tup [wv, .ref tr])) fun a u na h _ => by
          have nab : a ≠ b := fun e => by
            obtain ⟨c0, c1, c2, ns', g1, _, _⟩ := hb
            rw [e, g1] at na
            cases na
          exact ut _ _ (k2.same _ _ (k'.same _ _ h nab) nab)
        have ldus := dv.len
        have n11 : ∀ a, (H' a = none ∧ a ≠ tr) → H a = none := fun a h => kHH.free hb h.1
        refine q (.ref t) (.node s ds) _ (.node (kF.free hb ht) upd_same hw2 tr0 (ut _ _ htr2) (by omega) (dv.keep n11 (KeepN.of ut))) (.node ?_ fun d hd => (all d hd).1) (by rw [Dr.pts]; exact ep) ?_ ?_ (kF.then ut)
        · have ld : ds.length = many := by omega
          rcases hs with ⟨e, _⟩ | ⟨e, _⟩ | ⟨r, tt, e, h4, h5⟩ <;> subst e
          · exact ⟨by omega, fun d hd => (all d hd).2.2.1 rfl⟩
          · exact ⟨by omega, fun d hd => (all d hd).2.2.2 rfl⟩
          · exact ⟨by omega, fun h => by have := h5 h; omega⟩
        · rw [Dr.hgt]
          have := (hgtDr_le ds).mpr fun d hd => (all d hd).2.1
          omega
        · rcases hs with ⟨e, h⟩ | ⟨e, h⟩ | ⟨r, tt, e, _⟩ <;> subst e
          · exact ⟨fun e => absurd e h, fun _ _ e => (by cases e)⟩
          · exact ⟨fun _ _ e => (by cases e), fun e => absurd e h⟩
          · exact ⟨fun _ _ e => (by cases e), fun _ _ e => (by cases e)⟩
theorem cal_drawn (A : At K mg "_law_drawn_tree" s_law_drawn_tree) (B : Bi mg) (c_law_take : Cal P w K mg base 1 "_law_take" sp_take) (c_law_pick : Cal P w K mg base 2 "_law_pick" (sp_pick K)) (c_law_prime : Cal P w K mg base 2 "_law_prime" sp_prime) : ∀ g : Nat, Cal P w K mg base (2 + g + 1) "_law_drawn_tree" (sp_drawn g)
  | 0 => by
    have c0 : Cal P w K mg base (0 + 1) "_law_drawn_tree" (fun _ _ _ _ => False) := A.cal sc_law_drawn_tree (fun _ _ _ _ _ _ us hl => match us, hl with | [_, _, _], _ => rfl) (fun _ _ _ _ h => h.elim) fun _ _ _ _ _ _ _ _ _ _ h => h.elim
    exact cal_drawn_step (g := 0) A B (Nat.le_refl _) c_law_take c_law_pick c_law_prime (c0.mono (by omega)) fun j _ _ _ _ h => absurd h (Nat.succ_ne_zero j)
  | g + 1 => cal_drawn_step A B (by omega) c_law_take c_law_pick c_law_prime (cal_drawn A B c_law_take c_law_pick c_law_prime g) fun j _ _ _ _ h x => by
    rw [← Nat.succ.inj h]
    exact x
end
end Ns

/-! Own layer: four points in a row. -/
namespace Ns
open PySem PySem.Spec PyProof.Rows L2
local macro_rules | `(tactic| walk_at "look") => `(tactic| first | assumption | exact upd_same | (refine (upd_ne (by first | assumption | exact Ne.symm (by assumption))).trans ?_; walk_at "look"))
local macro_rules | `(tactic| walk_at "cond") => `(tactic| first | assumption | omega | (dsimp only; omega) | exact ⟨by omega, by omega⟩ | decide | exact ⟨by decide, by decide, by decide⟩ | exact .inr ⟨by decide, by decide⟩ | exact .inl ⟨by decide, by decide⟩ | exact .inr ⟨by omega, by omega⟩ | exact .inl ⟨by omega, by omega⟩)
local macro_rules | `(tactic| walk_at "rd1") => `(tactic| first
  | refine ⟨_, rfl, ?_⟩
  | refine ⟨_, _, rfl, rfl, ?_⟩
  | refine ⟨rfl, ?_⟩
  | refine ⟨_, _, rfl, rfl, (by walk_at "cond"), ?_⟩
  | refine ⟨_, _, _, _, rfl, rfl, SqL.of (by walk_at "look"), rfl, ?_⟩
  | refine ⟨_, _, _, _, rfl, rfl, SqT.of (by walk_at "look"), rfl, ?_⟩
  | refine ⟨_, _, _, _, rfl, rfl, (by walk_at "look"), rfl, ?_⟩
  | refine .inl ⟨_, rfl, ?_⟩
  | refine ⟨.inl ⟨rfl, _, SqL.of (by walk_at "look")⟩, ?_⟩
  | refine ⟨_, _, rfl, ⟨by omega, by omega, by omega, by omega⟩, ?_⟩
  | refine ⟨_, rfl, (by omega), (by omega), ?_⟩
  | refine And.intro (by walk_at "cond") ?_)
local macro_rules | `(tactic| walk_at "rd") => `(tactic| repeat (walk_at "rd1"))

abbrev N_in_a_row : List Str := ["tied", "points", "b", "c", "a", "d", "x"]
theorem sc_in_a_row : FnScope N_in_a_row ["tied", "points"] (defScope s_in_a_row) := ⟨rfl, rfl, rfl, by decide +kernel, rfl, by decide +kernel, by decide +kernel⟩
section
variable {P : Program} {w : World} {K : PySem.W.Frag} {mg : Str → Option Value} {base : Heap}
def RowP (T : Tm) (ps : List Nat) (a b c d : Nat) : Prop := a ∈ ps ∧ b ∈ ps ∧ c ∈ ps ∧ d ∈ ps ∧ T a b = true ∧ T b c = true ∧ T c d = true ∧ T a c = false ∧ T b d = false ∧ T a d = false
def sp_in_a_row (K : PySem.W.Frag) : Sp := fun vs H Q _ => ∃ (m s : Addr) (rows : List Addr) (n : Nat) (T : Tm) (ps : List Nat), vs = [.ref m, .ref s] ∧ Mat H m rows n T ∧ H s = some (.tup (ps.map pI)) ∧ (∀ x ∈ ps, x < n) ∧ ps.length ≤ 40 ∧ SyT T ∧ P4 T ps ∧ ∀ (r : Addr) (a b c d : Nat) H', Same H H' → H' r = some (.tup [pI a, pI b, pI c, pI d]) → RowP T ps a b c d → Q (.ref r) H'
theorem cal_in_a_row (A : At K mg "_in_a_row" s_in_a_row) (B : Bi mg) : Cal P w K mg base 1 "_in_a_row" (sp_in_a_row K) := by
  have nd := sc_in_a_row.nd
  refine A.cal sc_in_a_row (fun _ _ _ _ _ _ us hl => match us, hl with | [_, _], _ => rfl) ?_ fun f cdv A' outer s H vs Q E hr h => ⟨_, (pss_cons (ps_for passOwn rfl (pi_tupK (K := K) rfl (pv 1)) (pg_name (i := 2) nd rfl (.inr rfl)) (pss_one (ps_for passOwn rfl (pi_tupK (K := K) rfl (pv 1)) (pg_name (i := 3) nd rfl (.inr rfl)) (pss_cons (ps_if (pt_not (pt_val (pe_ix (ix_listK (K := K) rfl) (pe_ix (ix_listK (K := K) rfl) (pv 0) (pv 2) (fun _ _ => rfl)) (pv 3) (fun _ _ => rfl)))) (pss_one ps_continue) pss_nil)
  (pss_one (ps_for passOwn rfl (pi_listK (K := K) rfl (pe_lc (own := [("x", 6)]) rfl nd (pi_tupK (K := K) rfl (pv 1)) (blkOk_by (own := [("x", 6)]) (N := N_in_a_row) (sc := defScope s_in_a_row) (by decide +kernel)) (fun _ _ _ _ _ => (pg_name (i := 6) nd rfl (.inl rfl) (.inr rfl))) (fun _ _ _ _ _ => (pts_one (PW.pt (pw_and (pt_cmpR op_ne (pv 6) (pv 3) (nomark _)) (pw_and (pt_val (pe_ix (ix_listK (K := K) rfl) (pe_ix (ix_listK (K := K) rfl) (pv 0) (pv 6) (fun _ _ => rfl)) (pv 2) (fun _ _ => rfl))) (pw_and1 (pt_not (pt_val (pe_ix (ix_listK (K := K) rfl) (pe_ix (ix_listK (K := K) rfl) (pv 0) (pv 6) (fun _ _ => rfl)) (pv 3) (fun _ _ => rfl)))))))))) (fun _ _ _ _ _ => (pv 6)))) (pg_name (i := 4) nd rfl (.inl rfl)) (pss_one (ps_for passOwn rfl (pi_listK (K := K) rfl (pe_lc (own := [("x", 6)]) rfl nd (pi_tupK (K := K) rfl (pv 1)) (blkOk_by (own := [("x", 6)]) (N := N_in_a_row) (sc := defScope s_in_a_row) (by decide +kernel)) (fun _ _ _ _ _ => (pg_name (i := 6) nd rfl (.inl rfl) (.inr rfl))) (fun _ _ _ _ _ => (pts_one (PW.pt (pw_and (pt_cmpR op_ne (pv 6) (pv 2) (nomark _)) (pw_and (pt_val (pe_ix (ix_listK (K := K) rfl) (pe_ix (ix_listK (K := K) rfl) (pv 0) (pv 3) (fun _ _ => rfl)) (pv 6) (fun _ _ => rfl))) (pw_and1 (pt_not (pt_val (pe_ix (ix_listK (K := K) rfl) (pe_ix (ix_listK (K := K) rfl) (pv 0) (pv 6) (fun _ _ => rfl)) (pv 2) (fun _ _ => rfl)))))))))) (fun _ _ _ _ _ => (pv 6)))) (pg_name (i := 5) nd rfl (.inl rfl)) (pss_one (ps_if (pt_not (pt_val (pe_ix (ix_listK (K := K) rfl) (pe_ix (ix_listK (K := K) rfl) (pv 0) (pv 4) (fun _ _ => rfl)) (pv 5) (fun _ _ => rfl)))) (pss_one (ps_ret (pe_tup (pa_cons (pv 4) (pa_cons (pv 2) (pa_cons (pv 3) (pa_cons (pv 5) pa_nil))))))) pss_nil))))))))))
  (pss_one (ps_ret pe_non))), ?_⟩
  · rintro vs H Q E ⟨m, s, rows, n, T, ps, rfl, _⟩
    rfl
  · obtain ⟨m, s, rows, n, T, ps, rfl, hM, hs, hlt, hl, S, p4, q⟩ := h
    refine ⟨_, rfl, s, rfl, ⟨_, SqT.of hs⟩, for_tup (K := K) (a := s) (xs := ps.map pI) (fun i σ H1 => ∃ v2 v3 v4 v5 v6, σ = [some (.ref m), some (.ref s), v2, v3, v4, v5, v6] ∧ Same H H1 ∧ ∀ b ∈ ps.take i, ∀ a c d, ¬ RowP T ps a b c d) ⟨none, none, none, none, none, rfl, Same.refl _, fun b h => nomatch h⟩ (fun i σ H1 _ ⟨_, _, _, _, _, _, s1, _⟩ => SqT.of (s1 _ _ hs)) ?_ ?_⟩
    · rintro i y σ H1 hy ⟨v2, v3, v4, v5, v6, rfl, s1, hno⟩
      rw [List.getElem?_map] at hy
      obtain ⟨b, hb, rfl⟩ := Option.map_eq_some_iff.mp hy
      have hbm := List.mem_of_getElem? hb
      have hbn := hlt b hbm
      refine ⟨_, rfl, s, rfl, ⟨_, SqT.of (s1 _ _ hs)⟩, for_tup (K := K) (a := s) (xs := ps.map pI) (fun j σ H2 => ∃ v3 v4 v5 v6, σ = [some (.ref m), some (.ref s), some (pI b), v3, v4, v5, v6] ∧ Same H H2 ∧ ∀ c ∈ ps.take j, ∀ a d, ¬ RowP T ps a b c d) ⟨_, _, _, _, rfl, s1, fun c h => nomatch h⟩ (fun i σ H2 _ ⟨_, _, _, _, _, s2, _⟩ => SqT.of (s2 _ _ hs)) ?_ ?_⟩
      · rintro j y σ H2 hy ⟨v3, v4, v5, v6, rfl, s2, hnc⟩
        rw [List.getElem?_map] at hy
        obtain ⟨c, hc, rfl⟩ := Option.map_eq_some_iff.mp hy
        have hcm := List.mem_of_getElem? hc
        have hcn := hlt c hcm
        have ext : (∀ a d, ¬ RowP T ps a b c d) → ∀ c ∈ ps.take (j + 1), ∀ a d, ¬ RowP T ps a b c d := fun h z hz => by
          rw [List.take_add_one, hc] at hz
          rcases List.mem_append.mp hz with hz | hz
          · exact hnc z hz
          · rw [List.mem_singleton.mp hz]
            exact h
        refine rdM (hM.same s2) rfl rfl rfl hbn hcn ⟨_, rfl, ?_⟩
        cases hbc : T b c with
        | false =>
          refine iteT ⟨_, _, _, _, rfl, s2, ext fun a d h => ?_⟩
          rw [show T b c = true from h.2.2.2.2.2.1] at hbc
          cases hbc
        | true =>
          refine iteF ?_
          refine ⟨_, rfl, s, rfl, ⟨_, SqT.of (s2 _ _ hs)⟩, fun D hD => ?_⟩
          refine comp_tup (K := K) (ds := ps) persPt (fun x => if (decide (x ≠ c) && (T x b && !T x c)) = true then some x else none) persPt hD (s2 _ _ hs) (by rw [List.length_map]; exact sizeBig (by omega)) (pairedPt _ _) ?_ ?_
          · rintro x xv H3 Yes No hx rfl s3 yes no
            have hxn := hlt x hx
            refine ⟨rfl, _, rfl, _, rfl, rfl, _, rfl, ifNI (fun c1 => ?_) (fun c1 => ?_)⟩
            · have c1 : x ≠ c := fun e => c1 (by rw [e])
              refine rdM (hM.same (s2.trans s3)) rfl rfl rfl hxn hbn ⟨_, rfl, ?_⟩
              cases hxb : T x b with
              | false => exact iteF (iteF (no (if_neg (by simp [hxb])) _ (Same.refl _)))
              | true =>
                refine iteT ?_
                refine rdM (hM.same (s2.trans s3)) rfl rfl rfl hxn hcn ⟨_, rfl, ?_⟩
                cases hxc : T x c with
                | true => exact iteF (no (if_neg (by simp [hxc])) _ (Same.refl _))
                | false => exact iteT ⟨_, rfl, yes x (if_pos (by simp [hxb, hxc, c1])) _ _ (Same.refl _) rfl⟩
            · have c1 : x = c := Int.ofNat.inj c1
              exact iteF (no (if_neg (by simp [c1])) _ (Same.refl _))
          intro H3 ys s3 hD3 prs
          rw [fm_filt] at prs
          have eys := pairedPt_eq prs
          subst eys
          have hA : ∀ a, a ∈ (ps.filter fun x => decide (x ≠ c) && (T x b && !T x c)) ↔ a ∈ ps ∧ a ≠ c ∧ T a b = true ∧ T a c = false := fun a => by
            rw [List.mem_filter]
            simp
          generalize (ps.filter fun x => decide (x ≠ c) && (T x b && !T x c)) = A at hD3 hA
          have s23 := s2.trans s3
          refine ⟨D, rfl, ⟨_, SqL.of hD3⟩, for_list (K := K) (a := D) (xs := A.map pI) (fun k σ H4 => ∃ v4 v5 v6, σ = [some (.ref m), some (.ref s), some (pI b), some (pI c), v4, v5, v6] ∧ Same H H4 ∧ H4 D = some (.lst (A.map pI)) ∧ ∀ a ∈ A.take k, ∀ d, ¬ RowP T ps a b c d) ⟨_, _, _, rfl, s23, hD3, fun a h => nomatch h⟩ (fun k σ H4 _ ⟨_, _, _, _, _, h, _⟩ => SqL.of h) ?_ ?_⟩
          · rintro k y σ H4 hy ⟨v4, v5, v6, rfl, s4, hD4, hna⟩
            rw [List.getElem?_map] at hy
            obtain ⟨a, ha, rfl⟩ := Option.map_eq_some_iff.mp hy
            obtain ⟨ham, hac, hab, hac2⟩ := (hA a).mp (List.mem_of_getElem? ha)
            have han := hlt a ham
            refine ⟨_, rfl, s, rfl, ⟨_, SqT.of (s4 _ _ hs)⟩, fun D2 hD2 => ?_⟩
            refine comp_tup (K := K) (ds := ps) persPt (fun x => if (decide (x ≠ b) && (T c x && !T x b)) = true then some x else none) persPt hD2 (s4 _ _ hs) (by rw [List.length_map]; exact sizeBig (by omega)) (pairedPt _ _) ?_ ?_
            · rintro x xv H5 Yes No hx rfl s5 yes no
              have hxn := hlt x hx
              refine ⟨rfl, _, rfl, _, rfl, rfl, _, rfl, ifNI (fun c1 => ?_) (fun c1 => ?_)⟩
              · have c1 : x ≠ b := fun e => c1 (by rw [e])
                refine rdM (hM.same (s4.trans s5)) rfl rfl rfl hcn hxn ⟨_, rfl, ?_⟩
                cases hcx : T c x with
                | false => exact iteF (iteF (no (if_neg (by simp [hcx])) _ (Same.refl _)))
                | true =>
                  refine iteT ?_
                  refine rdM (hM.same (s4.trans s5)) rfl rfl rfl hxn hbn ⟨_, rfl, ?_⟩
                  cases hxb : T x b with
                  | true => exact iteF (no (if_neg (by simp [hxb])) _ (Same.refl _))
                  | false => exact iteT ⟨_, rfl, yes x (if_pos (by simp [hxb, hcx, c1])) _ _ (Same.refl _) rfl⟩
              · have c1 : x = b := Int.ofNat.inj c1
                exact iteF (no (if_neg (by simp [c1])) _ (Same.refl _))
            intro H5 ys s5 hD5 prs
            rw [fm_filt] at prs
            have eys := pairedPt_eq prs
            subst eys
            have hB : ∀ d, d ∈ (ps.filter fun x => decide (x ≠ b) && (T c x && !T x b)) ↔ d ∈ ps ∧ d ≠ b ∧ T c d = true ∧ T d b = false := fun d => by
              rw [List.mem_filter]
              simp
            generalize (ps.filter fun x => decide (x ≠ b) && (T c x && !T x b)) = B at hD5 hB
            have s45 := s4.trans s5
            have nD : D2 ≠ D := fun e => by rw [e, hD4] at hD2; cases hD2
            refine ⟨D2, rfl, ⟨_, SqL.of hD5⟩, for_list (K := K) (a := D2) (xs := B.map pI) (fun l σ H6 => ∃ v5 v6, σ = [some (.ref m), some (.ref s), some (pI b), some (pI c), some (pI a), v5, v6] ∧ H6 = H5 ∧ ∀ d ∈ B.take l, ¬ RowP T ps a b c d) ⟨_, _, rfl, rfl, fun a h => nomatch h⟩ (fun k σ H6 _ ⟨_, _, _, e, _⟩ => by rw [e]; exact SqL.of hD5) ?_ ?_⟩
            · rintro l y σ H6 hy ⟨v5, v6, rfl, rfl, hnd⟩
              rw [List.getElem?_map] at hy
              obtain ⟨d, hd, rfl⟩ := Option.map_eq_some_iff.mp hy
              obtain ⟨hdm, hdb, hcd, hdb2⟩ := (hB d).mp (List.mem_of_getElem? hd)
              have hdn := hlt d hdm
              refine rdM (hM.same s45) rfl rfl rfl han hdn ⟨_, rfl, ?_⟩
              cases had : T a d with
              | false =>
                refine iteT ?_
                refine ⟨_, rfl, _, rfl, _, rfl, _, rfl, by show 4 ≤ sizeLine; decide, fun r hr => ?_⟩
                exact q r a b c d _ (s45.trans (same_laid hr)) upd_same ⟨ham, hbm, hcm, hdm, hab, hbc, hcd, hac2, by rw [S.sy]; exact hdb2, had⟩
              | true =>
                refine iteF ⟨_, _, rfl, rfl, fun z hz => ?_⟩
                rw [List.take_add_one, hd] at hz
                rcases List.mem_append.mp hz with hz | hz
                · exact hnd z hz
                · rw [List.mem_singleton.mp hz]
                  intro h
                  rw [h.2.2.2.2.2.2.2.2.2] at had
                  cases had
            · rintro σ H6 ⟨v5, v6, rfl, rfl, hnd⟩
              rw [List.length_map, List.take_length] at hnd
              refine ⟨_, _, _, rfl, s45, s5 _ _ hD4, fun z hz => ?_⟩
              rw [List.take_add_one, ha] at hz
              rcases List.mem_append.mp hz with hz | hz
              · exact hna z hz
              · rw [List.mem_singleton.mp hz]
                intro d h
                obtain ⟨h1, h2, h3, h4, h5, h6, h7, h8, h9, h10⟩ := id h
                refine hnd d ((hB d).mpr ⟨h4, fun e => ?_, h7, by rw [S.sy]; exact h9⟩) h
                rw [e, h5] at h10
                cases h10
          · rintro σ H4 ⟨v4, v5, v6, rfl, s4, hD4, hna⟩
            rw [List.length_map, List.take_length] at hna
            refine ⟨_, _, _, _, rfl, s4, ext fun a d h => ?_⟩
            obtain ⟨h1, h2, h3, h4, h5, h6, h7, h8, h9, h10⟩ := id h
            refine hna a ((hA a).mpr ⟨h1, fun e => ?_, h5, h8⟩) d h
            rw [e, h7] at h10
            cases h10
      · rintro σ H2 ⟨v3, v4, v5, v6, rfl, s2, hnc⟩
        rw [List.length_map, List.take_length] at hnc
        refine ⟨_, _, _, _, _, rfl, s2, fun z hz => ?_⟩
        rw [List.take_add_one, hb] at hz
        rcases List.mem_append.mp hz with hz | hz
        · exact hno z hz
        · rw [List.mem_singleton.mp hz]
          exact fun a c d h => hnc c h.2.2.1 a d h
    · rintro σ H1 ⟨v2, v3, v4, v5, v6, rfl, s1, hno⟩
      rw [List.length_map, List.take_length] at hno
      obtain ⟨a, b, c, d, ha, hb, hc, hd, h⟩ := p4
      exact absurd ⟨ha, hb, hc, hd, h⟩ (hno b hb a c d)
end
end Ns

/-! Own layer: the tree of a cograph, or four points in a row. -/
namespace Ns
open PySem PySem.Spec PyProof.Rows L2
local macro_rules | `(tactic| walk_at "look") => `(tactic| first | assumption | exact upd_same | (refine (upd_ne (by first | assumption | exact Ne.symm (by assumption))).trans ?_; walk_at "look"))
local macro_rules | `(tactic| walk_at "cond") => `(tactic| first | assumption | omega | (dsimp only; omega) | exact ⟨by omega, by omega⟩ | decide | exact ⟨by decide, by decide, by decide⟩ | exact .inr ⟨by decide, by decide⟩ | exact .inl ⟨by decide, by decide⟩ | exact .inr ⟨by omega, by omega⟩ | exact .inl ⟨by omega, by omega⟩)
local macro_rules | `(tactic| walk_at "rd1") => `(tactic| first
  | refine ⟨_, rfl, ?_⟩
  | refine ⟨_, _, rfl, rfl, ?_⟩
  | refine ⟨rfl, ?_⟩
  | refine ⟨_, _, rfl, rfl, (by walk_at "cond"), ?_⟩
  | refine ⟨_, _, _, _, rfl, rfl, SqL.of (by walk_at "look"), rfl, ?_⟩
  | refine ⟨_, _, _, _, rfl, rfl, SqT.of (by walk_at "look"), rfl, ?_⟩
  | refine ⟨_, _, _, _, rfl, rfl, (by walk_at "look"), rfl, ?_⟩
  | refine .inl ⟨_, rfl, ?_⟩
  | refine ⟨.inl ⟨rfl, _, SqL.of (by walk_at "look")⟩, ?_⟩
  | refine ⟨_, _, rfl, ⟨by omega, by omega, by omega, by omega⟩, ?_⟩
  | refine ⟨_, rfl, (by omega), (by omega), ?_⟩
  | refine And.intro (by walk_at "cond") ?_)
local macro_rules | `(tactic| walk_at "rd") => `(tactic| repeat (walk_at "rd1"))

abbrev N_cograph : List Str := ["tied", "points", "sort", "how", "pieces", "trees", "piece", "is_of", "paper"]
theorem sc_cograph : FnScope N_cograph ["tied", "points"] (defScope s_cograph) := ⟨rfl, rfl, rfl, by decide +kernel, rfl, by decide +kernel, by decide +kernel⟩
abbrev N_cograph_of : List Str := ["net"]
theorem sc_cograph_of : FnScope N_cograph_of ["net"] (defScope s_cograph_of) := ⟨rfl, rfl, rfl, by decide +kernel, rfl, by decide +kernel, by decide +kernel⟩
def sortS (how : Bool) : Str := if how then "apart" else "together"
mutual
inductive CoTr (T : Tm) : List Nat → PyData → Prop
  | leaf (x : Nat) : CoTr T [x] (.int (x : Int))
  | node {ps : List Nat} {Ls : List (List Nat)} {ds : List PyData} (how : Bool) : Ls.flatten.Perm ps → 2 ≤ Ls.length → Ls.Pairwise (fun A B => ∀ x ∈ A, ∀ y ∈ B, T x y = !how) → CoTrs T Ls ds → CoTr T ps (.tuple [.str (sortS how), .tuple ds])
inductive CoTrs (T : Tm) : List (List Nat) → List PyData → Prop
  | nil : CoTrs T [] []
  | cons {L : List Nat} {Ls : List (List Nat)} {d : PyData} {ds : List PyData} : CoTr T L d → CoTrs T Ls ds → CoTrs T (L :: Ls) (d :: ds)
end
theorem CoTrs.snoc {T : Tm} : ∀ {Ls : List (List Nat)} {ds : List PyData} {L : List Nat} {d : PyData}, CoTrs T Ls ds → CoTr T L d → CoTrs T (Ls ++ [L]) (ds ++ [d])
  | _, _, _, _, .nil, h => .cons h .nil
  | _, _, _, _, .cons a t, h => .cons a (t.snoc h)
theorem len_part : ∀ {Ls : List (List Nat)}, (∀ L ∈ Ls, L ≠ []) → Ls.length ≤ Ls.flatten.length ∧ ∀ L ∈ Ls, L.length + Ls.length ≤ Ls.flatten.length + 1
  | [], _ => ⟨Nat.le_refl _, fun L h => nomatch h⟩
  | A :: r, h => by
    obtain ⟨h1, h2⟩ := len_part fun L hL => h L (List.mem_cons_of_mem _ hL)
    have := List.length_pos_iff.mpr (h A (List.mem_cons_self ..))
    rw [List.flatten_cons, List.length_append, List.length_cons]
    refine ⟨by omega, fun L hL => ?_⟩
    rcases List.mem_cons.mp hL with e | hL
    · rw [e]
      omega
    · have := h2 L hL
      omega
theorem nodup_parts : ∀ {Ls : List (List Nat)}, Ls.flatten.Nodup → ∀ L ∈ Ls, L.Nodup
  | A :: r, h, L, hL => by
    rw [List.flatten_cons] at h
    have h := List.nodup_append.mp h
    rcases List.mem_cons.mp hL with e | hL
    · rw [e]
      exact h.1
    · exact nodup_parts h.2.1 L hL
def CoOut (H : Hp) (T : Tm) (ps : List Nat) (t : Addr) : Prop := (∃ (v : V) (d : PyData), H t = some (.tup [.bl true, v]) ∧ TN 40 H v d ∧ CoTr T ps d) ∨
  ∃ (r : Addr) (a b c d : Nat), H t = some (.tup [.bl false, .ref r]) ∧ H r = some (.tup [pI a, pI b, pI c, pI d]) ∧ RowP T ps a b c d
theorem RowP.sub {T : Tm} {ps qs : List Nat} {a b c d : Nat} (s : ∀ x ∈ ps, x ∈ qs) (h : RowP T ps a b c d) : RowP T qs a b c d := by
  obtain ⟨h1, h2, h3, h4, h⟩ := h
  exact ⟨s _ h1, s _ h2, s _ h3, s _ h4, h⟩
section
variable {P : Program} {w : World} {K : PySem.W.Frag} {mg : Str → Option Value} {base : Heap}
def sp_cograph (g : Nat) : Sp := fun vs H Q _ => ∃ (m s : Addr) (rows : List Addr) (n : Nat) (T : Tm) (ps : List Nat), vs = [.ref m, .ref s] ∧ Mat H m rows n T ∧ H s = some (.tup (ps.map pI)) ∧ (∀ x ∈ ps, x < n) ∧ ps.length ≤ 40 ∧ ps ≠ [] ∧ ps.Nodup ∧ SyT T ∧ ps.length ≤ g ∧ ∀ (r : Addr) H', Same H H' → CoOut H' T ps r → Q (.ref r) H'
theorem cal_cograph_step {g k : Nat} {spR : Sp} (A : At K mg "_cograph" s_cograph) (B : Bi mg) (hk : 1 ≤ k) (c_pieces_by : Cal P w K mg base 1 "pieces_by" (sp_pieces_by K)) (c_in_a_row : Cal P w K mg base 1 "_in_a_row" (sp_in_a_row K)) (c_cograph : Cal P w K mg base k "_cograph" spR)
    (hR : ∀ j vs H Q E, j + 1 = g → sp_cograph j vs H Q E → spR vs H Q E) : Cal P w K mg base (k + 1) "_cograph" (sp_cograph g) := by
  have nd := sc_cograph.nd
  have c_pieces_by := c_pieces_by.mono hk
  have c_in_a_row := c_in_a_row.mono hk
  refine A.cal sc_cograph (fun _ _ _ _ _ _ us hl => match us, hl with | [_, _], _ => rfl) ?_ fun f cdv A' outer s H vs Q E hr h => ⟨_, (pss_cons (ps_if (pt_cmpR op_eq (pe_callB (call_lenK (K := K) rfl) (by rfl) B.len (by decide +kernel) (pa_cons (pv 1) pa_nil)) pe_int (nomark _)) (pss_one (ps_ret (pe_tup (pa_cons pe_bl (pa_cons (pe_ix (ix_tupK (K := K) rfl) (pv 1) pe_int (fun _ _ => rfl)) pa_nil))))) pss_nil)
  (pss_cons (ps_for passOwn rfl (pi_tupK (K := K) rfl (pe_tup (pa_cons (pe_tup (pa_cons pe_str (pa_cons pe_bl pa_nil))) (pa_cons (pe_tup (pa_cons pe_str (pa_cons pe_bl pa_nil))) pa_nil)))) (pg_tupK (K := K) (n := 2) rfl rfl (pgs_cons (pg_name (i := 2) nd rfl (.inl rfl)) (pgs_cons (pg_name (i := 3) nd rfl (.inl rfl)) pgs_nil))) (pss_cons (ps_set (i := 4) nd rfl (.inl rfl) (pe_cal c_pieces_by hr (by first | decide | omega) (by rfl) passE (pa_cons (pv 0) (pa_cons (pv 1) (pa_cons (pv 3) pa_nil)))))
  (pss_cons (ps_if (pt_cmpR op_eq (pe_callB (call_lenK (K := K) rfl) (by rfl) B.len (by decide +kernel) (pa_cons (pv 4) pa_nil)) pe_int (nomark _)) (pss_one ps_continue) pss_nil)
  (pss_cons (ps_set (i := 5) nd rfl (.inl rfl) (pe_lst pa_nil))
  (pss_cons (ps_for passOwn rfl (pi_listK (K := K) rfl (pv 4)) (pg_name (i := 6) nd rfl (.inl rfl)) (pss_cons (ps_asg (pe_cal c_cograph hr (by first | decide | omega) (by rfl) passE (pa_cons (pv 0) (pa_cons (pv 6) pa_nil))) (pg_tupK (K := K) (n := 2) rfl rfl (pgs_cons (pg_name (i := 7) nd rfl (.inl rfl)) (pgs_cons (pg_name (i := 8) nd rfl (.inl rfl)) pgs_nil))))
  (pss_cons (ps_if (pt_not (pt_val (pv 7))) (pss_one (ps_ret (pe_tup (pa_cons pe_bl (pa_cons (pv 8) pa_nil))))) pss_nil)
  (pss_one (ps_expr (pe_bm PySem.F.plainAttrs_list PySem.F.slot_list_append PySem.F.type_list_append mt_append (pv 5) (pa_cons (pv 8) pa_nil)))))))
  (pss_one (ps_ret (pe_tup (pa_cons pe_bl (pa_cons (pe_tup (pa_cons (pv 2) (pa_cons (pe_callTy (call_tuple_ofK (K := K) rfl) (by rfl) B.tuple (by decide +kernel) (pa_cons (pv 5) pa_nil)) pa_nil))) pa_nil))))))))))
  (pss_one (ps_ret (pe_tup (pa_cons pe_bl (pa_cons (pe_cal c_in_a_row hr (by first | decide | omega) (by rfl) passE (pa_cons (pv 0) (pa_cons (pv 1) pa_nil))) pa_nil))))))), ?_⟩
  · rintro vs H Q E ⟨m, s, rows, n, T, ps, rfl, _⟩
    rfl
  · obtain ⟨m, s, rows, n, T, ps, rfl, hM, hs, hlt, hl, hne, hnd, S, hg, q⟩ := h
    obtain ⟨x0, hx0⟩ : ∃ x, ps[0]? = some x := ⟨_, List.getElem?_eq_getElem (List.length_pos_iff.mpr hne)⟩
    refine ⟨_, rfl, _, _, rfl, .inr ⟨_, SqT.of hs, rfl⟩, rfl, _, rfl, ifI (fun c => ?_) (fun c => ?_)⟩
    · rw [List.length_map] at c
      refine ⟨_, rfl, _, _, _, _, rfl, rfl, SqT.of hs, atI_nat (j := 0) (v := pI x0) (by rw [List.getElem?_map, hx0]; rfl), by show 2 ≤ sizeLine; decide, fun t ht => ?_⟩
      refine q t _ (same_laid ht) (.inl ⟨pI x0, .int (x0 : Int), upd_same, .int _, ?_⟩)
      obtain ⟨y, rfl⟩ : ∃ y, ps = [y] := List.length_eq_one_iff.mp (by omega)
      cases hx0
      exact .leaf _
    rw [List.length_map] at c
    have h2 : 2 ≤ ps.length := by
      have := List.length_pos_iff.mpr hne
      omega
    refine ⟨by show 2 ≤ sizeLine; decide, fun t1 ht1 => ⟨by show 2 ≤ sizeLine; decide, fun t2 ht2 => ⟨by show 2 ≤ sizeLine; decide, fun t3 ht3 => ?_⟩⟩⟩
    have x1 := same_laid (o := .tup [.str "apart", .bl true]) ht1
    have x2 := same_laid (o := .tup [.str "together", .bl false]) ht2
    have x3 := same_laid (o := .tup [.ref t1, .ref t2]) ht3
    have s3 := x1.trans (x2.trans x3)
    have k1 := (x2.trans x3) _ _ (show (upd H t1 (.tup [.str "apart", .bl true])) t1 = some (.tup [.str "apart", .bl true]) from upd_same)
    have k2 := x3 _ _ (show (upd (upd H t1 (.tup [.str "apart", .bl true])) t2 (.tup [.str "together", .bl false])) t2 = some (.tup [.str "together", .bl false]) from upd_same)
    have k3 : (upd (upd (upd H t1 (.tup [.str "apart", .bl true])) t2 (.tup [.str "together", .bl false])) t3 (.tup [.ref t1, .ref t2])) t3 = some (.tup [.ref t1, .ref t2]) := upd_same
    generalize (upd (upd (upd H t1 (.tup [.str "apart", .bl true])) t2 (.tup [.str "together", .bl false])) t3 (.tup [.ref t1, .ref t2])) = H3 at s3 k1 k2 k3
    refine ⟨t3, rfl, ⟨_, SqT.of k3⟩, for_tup (K := K) (a := t3) (xs := [.ref t1, .ref t2]) (fun i σ H4 => ∃ v2 v3 v4 v5 v6 v7 v8, σ = [some (.ref m), some (.ref s), v2, v3, v4, v5, v6, v7, v8] ∧ Same H3 H4 ∧ (0 < i → ¬ Cutt T true ps) ∧ (1 < i → ¬ Cutt T false ps)) ⟨_, _, _, _, _, _, _, rfl, Same.refl _, fun h => absurd h (Nat.lt_irrefl 0), fun h => absurd h (by decide)⟩ (fun i σ H4 _ ⟨_, _, _, _, _, _, _, _, s4, _⟩ => SqT.of (s4 _ _ k3)) ?_ ?_⟩
    · rintro i y σ H4 hy ⟨v2, v3, v4, v5, v6, v7, v8, rfl, s4, c1, c2⟩
      obtain ⟨how, ti, rfl, hti, hcut⟩ : ∃ how ti, y = .ref ti ∧ H3 ti = some (.tup [.str (sortS how), .bl how]) ∧ (¬ Cutt T how ps → (0 < i + 1 → ¬ Cutt T true ps) ∧ (1 < i + 1 → ¬ Cutt T false ps)) := by
        match i, hy, c1 with
        | 0, hy, _ => exact ⟨true, t1, (Option.some.inj hy).symm, k1, fun h => ⟨fun _ => h, fun h => absurd h (by decide)⟩⟩
        | 1, hy, c1 => exact ⟨false, t2, (Option.some.inj hy).symm, k2, fun h => ⟨fun _ => c1 (by decide), fun _ => h⟩⟩
      have s04 := s3.trans s4
      refine ⟨ti, _, rfl, SqT.of (s4 _ _ hti), rfl, _, _, rfl, _, _, rfl, rfl, ?_⟩
      refine ⟨_, rfl, _, rfl, _, rfl, m, s, rows, n, T, ps, how, rfl, hM.same s04, SqT.of (s04 _ _ hs), hlt, hl, fun pp us Ls H5 s5 hpp pU ok => ?_⟩
      have s05 := s04.trans s5
      have lus := pU.length
      refine ⟨_, rfl, _, _, rfl, .inl ⟨_, SqL.of hpp, rfl⟩, rfl, _, rfl, ifI (fun c3 => ?_) (fun c3 => ?_)⟩
      · obtain ⟨L, rfl⟩ : ∃ L, Ls = [L] := List.length_eq_one_iff.mp (by omega)
        obtain ⟨g1, g2⟩ := hcut (PcsOk.one_ S ok)
        exact ⟨_, _, _, _, _, _, _, rfl, s4.trans s5, g1, g2⟩
      have pm := ok.pm
      rw [List.append_nil] at pm
      have hL2 : 2 ≤ Ls.length := by
        match Ls, c3, lus, pm with
        | [], _, _, pm => exact absurd pm.symm.eq_nil hne
        | [L], c3, lus, _ => exact absurd (show (us.length : Int) = 1 by rw [lus]; rfl) c3
        | _ :: _ :: _, _, _, _ => simp
      have hLne : ∀ L ∈ Ls, L ≠ [] := fun L hL e => by
        obtain ⟨_, f, hf, _⟩ := ok.one L hL
        rw [e] at hf
        cases hf
      have hLs := len_part hLne
      have hmem : ∀ L ∈ Ls, ∀ x ∈ L, x ∈ ps := fun L hL x hx => pm.mem_iff.mp (List.mem_flatten.mpr ⟨L, hL, hx⟩)
      have hndL : ∀ L ∈ Ls, L.Nodup := nodup_parts (pm.nodup_iff.mpr hnd)
      obtain ⟨j, rfl⟩ : ∃ j, g = j + 1 := ⟨g - 1, by omega⟩
      refine ⟨Nat.zero_le _, fun pt hpt => ?_⟩
      have x6 := same_laid (o := .lst []) hpt
      have s06 := s05.trans x6
      have ptH : H pt = none := gone s05 hpt
      have pt3 : H3 pt = none := gone (s4.trans s5) hpt
      have hpp6 := x6 _ _ hpp
      have pU6 := pMono persTpN (sKt x6) pU
      have npp : pp ≠ pt := fun e => by rw [← e, hpp] at hpt; cases hpt
      have s36 := (s4.trans s5).trans x6
      have hpt6 : (upd H5 pt (.lst [])) pt = some (.lst []) := upd_same
      generalize (upd H5 pt (.lst [])) = H6 at s06 hpp6 pU6 s36 hpt6
      refine ⟨_, rfl, pp, rfl, ⟨_, SqL.of hpp6⟩, for_list (K := K) (a := pp) (xs := us) (fun i σ H7 => ∃ v6 v7 v8 zs ds, σ = [some (.ref m), some (.ref s), some (.str (sortS how)), some (.bl how), some (.ref pp), some (.ref pt), v6, v7, v8] ∧ Same H3 H7 ∧ SameX pt H6 H7 ∧ H7 pt = some (.lst zs) ∧ TNA 40 H7 zs ds ∧ CoTrs T (Ls.take i) ds) ⟨_, _, _, [], [], rfl, s36, SameX.refl _ _, hpt6, .nil, .nil⟩ (fun i σ H7 _ ⟨_, _, _, _, _, _, _, x, _⟩ => SqL.of (x _ _ hpp6 npp)) ?_ ?_⟩
      · rintro i y σ H7 hy ⟨v6, v7, v8, zs, ds, rfl, s7, k7, hz7, tz, ct⟩
        obtain ⟨L, hL, tL, rfl, htL⟩ := pAtL pU6 hy
        have hLm := List.mem_of_getElem? hL
        have s07 := s3.trans s7
        have lL := hLs.2 L hLm
        have lf := pm.length_eq
        have htL7 : H7 tL = some (.tup (L.map pI)) := k7 _ _ htL (fun e => by rw [e, hpt6] at htL; cases htL)
        refine ⟨_, rfl, _, rfl, hR j _ _ _ _ rfl ⟨m, tL, rows, n, T, L, rfl, hM.same s07, htL7, fun x hx => hlt x (hmem L hLm x hx), by omega, hLne L hLm, hndL L hLm, S, by omega, fun r H8 s8 co => ?_⟩⟩
        have hz8 := s8 _ _ hz7
        have tz8 := tz.keep (sKt s8) (Nat.le_refl _)
        rcases co with ⟨v, d, hr, tv, tr⟩ | ⟨r2, a, b, c', d, hr, hr2, row⟩
        · refine ⟨r, _, rfl, SqT.of hr, rfl, _, _, rfl, _, _, rfl, rfl, _, rfl, _, rfl, iteF ?_⟩
          have lz := tz.len
          have lz2 : zs.length ≤ 40 := by
            have e : ∀ {Ls : List (List Nat)} {ds : List PyData}, CoTrs T Ls ds → ds.length = Ls.length := fun {Ls ds} h => by
              induction ds generalizing Ls with
              | nil => cases h; rfl
              | cons d ds ih => cases h with
                | cons a t => rw [List.length_cons, List.length_cons, ih t]
            have := e ct
            rw [List.length_take] at this
            omega
          refine ⟨_, rfl, .inl ⟨rfl, _, SqL.of hz8⟩, _, rfl, pt, zs, _, rfl, rfl, hz8, sizeBig (by omega), ?_⟩
          have k9 : KeepT H8 (upd H8 pt (.lst (zs ++ [v]))) := KeepT.lst hz8
          refine ⟨_, _, _, zs ++ [v], ds ++ [d], rfl, sPut (s7.trans s8) pt3, fun b o hb hn => ?_, upd_same, (tz8.keep k9 (Nat.le_refl _)).app (.cons (tv.keep k9 (Nat.le_refl _)) .nil), ?_⟩
          · rw [upd_ne hn]
            exact s8 _ _ (k7 _ _ hb hn)
          · rw [List.take_add_one, hL]
            exact ct.snoc tr
        · refine ⟨r, _, rfl, SqT.of hr, rfl, _, _, rfl, _, _, rfl, rfl, _, rfl, _, rfl, iteT ?_⟩
          refine ⟨_, rfl, by show 2 ≤ sizeLine; decide, fun t9 ht9 => ?_⟩
          have x9 := same_laid (o := .tup [.bl false, .ref r2]) ht9
          exact q t9 _ (s07.trans (s8.trans x9)) (.inr ⟨r2, a, b, c', d, upd_same, x9 _ _ hr2, row.sub (hmem L hLm)⟩)
      · rintro σ H7 ⟨v6, v7, v8, zs, ds, rfl, s7, k7, hz7, tz, ct⟩
        rw [lus, List.take_length] at ct
        have lz := tz.len
        refine ⟨_, rfl, _, rfl, pt, _, rfl, .inl ⟨SqL.of hz7, fun t8 ht8 => ?_⟩⟩
        have x8 := same_laid (o := .tup zs) ht8
        refine ⟨by show 2 ≤ sizeLine; decide, fun t9 ht9 => ⟨by show 2 ≤ sizeLine; decide, fun t10 ht10 => ?_⟩⟩
        have x9 := same_laid (o := .tup [.str (sortS how), .ref t8]) ht9
        have x10 := same_laid (o := .tup [.bl true, .ref t9]) ht10
        have lz2 : zs.length ≤ 40 := by
          have e : ∀ {Ls : List (List Nat)} {ds : List PyData}, CoTrs T Ls ds → ds.length = Ls.length := fun {Ls ds} h => by
            induction ds generalizing Ls with
            | nil => cases h; rfl
            | cons d ds ih => cases h with
              | cons a t => rw [List.length_cons, List.length_cons, ih t]
          have h1 := e ct
          have h2 := pm.length_eq
          have h3 := hLs.1
          omega
        refine q t10 _ (s3.trans (s7.trans (x8.trans (x9.trans x10)))) (.inl ⟨.ref t9, _, upd_same, .tup (x10 _ _ upd_same) (by simp) (.cons (.str _) (.cons (.tup ((x9.trans x10) _ _ upd_same) lz2 (tz.keep (sKt (x8.trans (x9.trans x10))) (Nat.le_refl _))) .nil)), .node how pm hL2 ok.two ct⟩)
    · rintro σ H4 ⟨v2, v3, v4, v5, v6, v7, v8, rfl, s4, c1, c2⟩
      have p4 : P4 T ps := by
        apply Classical.byContradiction
        intro hn
        rcases row_of S hnd h2 hn with h | h
        · exact c1 (by show 0 < 2; decide) h
        · exact c2 (by show 1 < 2; decide) h
      have s04 := s3.trans s4
      refine ⟨_, rfl, _, rfl, m, s, rows, n, T, ps, rfl, hM.same s04, s04 _ _ hs, hlt, hl, S, p4, fun r a b c' d H5 s5 hr row => ?_⟩
      refine ⟨by show 2 ≤ sizeLine; decide, fun t6 ht6 => ?_⟩
      have x6 := same_laid (o := .tup [.bl false, .ref r]) ht6
      exact q t6 _ (s04.trans (s5.trans x6)) (.inr ⟨r, a, b, c', d, upd_same, x6 _ _ hr, row⟩)
theorem cal_cograph (A : At K mg "_cograph" s_cograph) (B : Bi mg) (c_pieces_by : Cal P w K mg base 1 "pieces_by" (sp_pieces_by K)) (c_in_a_row : Cal P w K mg base 1 "_in_a_row" (sp_in_a_row K)) : ∀ g : Nat, Cal P w K mg base (1 + g + 1) "_cograph" (sp_cograph g)
  | 0 => by
    have c0 : Cal P w K mg base (0 + 1) "_cograph" (fun _ _ _ _ => False) := A.cal sc_cograph (fun _ _ _ _ _ _ us hl => match us, hl with | [_, _], _ => rfl) (fun _ _ _ _ h => h.elim) fun _ _ _ _ _ _ _ _ _ _ h => h.elim
    exact cal_cograph_step (g := 0) A B (by omega) c_pieces_by c_in_a_row c0 fun j _ _ _ _ h => absurd h (Nat.succ_ne_zero j)
  | g + 1 => cal_cograph_step A B (by omega) c_pieces_by c_in_a_row (cal_cograph A B c_pieces_by c_in_a_row g) fun j _ _ _ _ h x => by
    rw [← Nat.succ.inj h]
    exact x
/-- what cograph_of tells -/
def ToldC (H : Hp) (n : Nat) (ties : List (Nat × Nat)) (t : Addr) : Prop := (n = 0 ∧ H t = some (.tup [.bl true, .non])) ∨ (0 < n ∧ CoOut H (tieT ties) (List.range n) t)
def sp_cograph_of (g : Nat) : Sp := fun vs H Q _ => ∃ (v : V) (n : Nat) (ties : List (Nat × Nat)), vs = [v] ∧ Net H v n ties ∧ n ≤ 40 ∧ n ≤ g ∧ Good n ties ∧ ∀ (t : Addr) (H' : Hp), Same H H' → ToldC H' n ties t → Q (.ref t) H'
theorem syT_of {n : Nat} {ties : List (Nat × Nat)} (hg : Good n ties) : SyT (tieT ties) := ⟨fun x y => tieT_sym ties x y, fun x => by
  refine decide_eq_false fun h => ?_
  rcases h with h | h <;> (have := (hg.1 _ h).1; dsimp only at this; omega)⟩
theorem cal_cograph_of {g : Nat} (A : At K mg "cograph_of" s_cograph_of) (B : Bi mg) (c_matrix : Cal P w K mg base 1 "matrix" sp_matrix) (c_cograph : Cal P w K mg base (1 + g + 1) "_cograph" (sp_cograph g)) : Cal P w K mg base (1 + g + 1 + 1) "cograph_of" (sp_cograph_of g) := by
  have nd := sc_cograph_of.nd
  have c_matrix := c_matrix.mono (show 1 ≤ 1 + g + 1 by omega)
  refine A.cal sc_cograph_of (fun _ _ _ _ _ _ us hl => match us, hl with | [_], _ => rfl) ?_ fun f cdv A' outer s H vs Q E hr h => ⟨_, (pss_cons (ps_if (pt_cmpR op_eq (pe_ix (ix_tupK (K := K) rfl) (pv 0) pe_int (fun _ _ => rfl)) pe_int (nomark _)) (pss_one (ps_ret (pe_tup (pa_cons pe_bl (pa_cons pe_non pa_nil))))) pss_nil)
  (pss_one (ps_ret (pe_cal c_cograph hr (by first | decide | omega) (by rfl) passE (pa_cons (pe_cal c_matrix hr (by first | decide | omega) (by rfl) passE (pa_cons (pv 0) pa_nil)) (pa_cons (pe_tupRg rfl (by rfl) B.tuple (prg_1 (by rfl) B.range (pe_ix (ix_tupK (K := K) rfl) (pv 0) pe_int (fun _ _ => rfl)))) pa_nil)))))), ?_⟩
  · rintro vs H Q E ⟨v, n, ties, rfl, _⟩
    rfl
  · obtain ⟨v, n, ties, rfl, hN, hn, hng, hg, q⟩ := h
    have hmt : ∀ p ∈ ties, p.1 < n ∧ p.2 < n := fun p hp => ⟨by have := hg.1 p hp; omega, (hg.1 p hp).2⟩
    obtain ⟨t0, u0, rfl, h0, _⟩ := id hN
    have h0 : H t0 = some (.tup [pI n, u0]) := h0
    refine ⟨_, rfl, _, _, _, _, rfl, rfl, SqT.of h0, rfl, rfl, _, rfl, ifI (fun c => ?_) (fun c => ?_)⟩
    · have c : n = 0 := by omega
      refine ⟨by show 2 ≤ sizeLine; decide, fun t ht => ?_⟩
      exact q t _ (same_laid ht) (.inl ⟨c, upd_same⟩)
    · have c : 0 < n := by omega
      refine ⟨_, rfl, _, n, ties, rfl, hN, by omega, hmt, fun m rows H1 s1 nm _ hM => ?_⟩
      refine ⟨_, rfl, _, _, _, _, rfl, rfl, SqT.of (s1 _ _ h0), rfl, _, rfl, RgOk.of_le (by omega) (by omega) (by omega) (by omega), fun r hr => ?_⟩
      have x2 := same_laid (o := .tup (rgV 0 (n : Int))) hr
      have e : rgV 0 (n : Int) = (List.range n).map pI := by
        unfold rgV
        rw [show ((n : Int) - 0).toNat = n by omega]
        exact List.map_congr_left fun i _ => by rw [Int.zero_add]; rfl
      have hr2 : (upd H1 r (.tup (rgV 0 (n : Int)))) r = some (.tup ((List.range n).map pI)) := by rw [upd_same, e]
      generalize (upd H1 r (.tup (rgV 0 (n : Int)))) = H2 at x2 hr2
      refine ⟨m, r, rows, n, tieT ties, List.range n, rfl, hM.same x2, hr2, fun x hx => List.mem_range.mp hx, by rw [List.length_range]; omega, fun e => by (have := congrArg List.length e; rw [List.length_range, List.length_nil] at this; omega), List.nodup_range, syT_of hg, by rw [List.length_range]; exact hng, fun t H3 s3 co => ?_⟩
      exact q t H3 (s1.trans (x2.trans s3)) (.inr ⟨c, co⟩)
end
end Ns

/-! Own layer X: neighbours and points, walked. -/
namespace Ns
open PySem PySem.Spec PyProof.Rows L2
local macro_rules | `(tactic| walk_at "look") => `(tactic| first | assumption | exact upd_same | (refine (upd_ne (by first | assumption | exact Ne.symm (by assumption))).trans ?_; walk_at "look"))
local macro_rules | `(tactic| walk_at "cond") => `(tactic| first | assumption | omega | (dsimp only; omega) | exact ⟨by omega, by omega⟩ | decide | exact ⟨by decide, by decide, by decide⟩ | exact .inr ⟨by decide, by decide⟩ | exact .inl ⟨by decide, by decide⟩ | exact .inr ⟨by omega, by omega⟩ | exact .inl ⟨by omega, by omega⟩)
local macro_rules | `(tactic| walk_at "rd1") => `(tactic| first
  | refine ⟨_, rfl, ?_⟩
  | refine ⟨_, _, rfl, rfl, ?_⟩
  | refine ⟨rfl, ?_⟩
  | refine ⟨_, _, rfl, rfl, (by walk_at "cond"), ?_⟩
  | refine ⟨_, _, _, _, rfl, rfl, SqL.of (by walk_at "look"), rfl, ?_⟩
  | refine ⟨_, _, _, _, rfl, rfl, SqT.of (by walk_at "look"), rfl, ?_⟩
  | refine ⟨_, _, _, _, rfl, rfl, (by walk_at "look"), rfl, ?_⟩
  | refine .inl ⟨_, rfl, ?_⟩
  | refine ⟨.inl ⟨rfl, _, SqL.of (by walk_at "look")⟩, ?_⟩
  | refine ⟨_, _, rfl, ⟨by omega, by omega, by omega, by omega⟩, ?_⟩
  | refine ⟨_, rfl, (by omega), (by omega), ?_⟩
  | refine And.intro (by walk_at "cond") ?_)
local macro_rules | `(tactic| walk_at "rd") => `(tactic| repeat (walk_at "rd1"))

abbrev N_neighbours_nets : List Str := ["net", "out", "x", "y", "one"]
theorem sc_neighbours_nets : FnScope N_neighbours_nets ["net"] (defScope s_neighbours_nets) := ⟨rfl, rfl, rfl, by decide +kernel, rfl, by decide +kernel, by decide +kernel⟩
abbrev N_is_point : List Str := ["net", "x"]
theorem sc_is_point : FnScope N_is_point ["net", "x"] (defScope s_is_point) := ⟨rfl, rfl, rfl, by decide +kernel, rfl, by decide +kernel, by decide +kernel⟩
abbrev N_check_points : List Str := ["net", "points", "x"]
theorem sc_check_points : FnScope N_check_points ["net", "points"] (defScope s_check_points) := ⟨rfl, rfl, rfl, by decide +kernel, rfl, by decide +kernel, by decide +kernel⟩
section
variable {P : Program} {w : World} {K : PySem.W.Frag} {mg : Str → Option Value} {base : Heap}
def sp_neighbours : Sp := fun vs H Q _ => ∃ (v : V) (n : Nat) (ties : List (Nat × Nat)), vs = [v] ∧ Net H v n ties ∧ n ≤ 1000 ∧ Good n ties ∧ ties.length ≤ 100000 ∧ ∀ (m : Addr) (H' : Hp), Same H H' → H m = none → Adj H' m n (tieT ties) → Q (.ref m) H'
theorem cal_neighbours (A : AtN K mg "neighbours_nets" "neighbours" s_neighbours_nets) (B : Bi mg) : Cal P w K mg base 1 "neighbours_nets" sp_neighbours := by
  have nd := sc_neighbours_nets.nd
  refine A.cal sc_neighbours_nets (fun _ _ _ _ _ _ us hl => match us, hl with | [_], _ => rfl) ?_ fun f cdv A' outer s H vs Q E hr h => ⟨_, (pss_cons (ps_setLc (i := 1) (own := [("x", 2)]) rfl nd rfl rfl (sw_true rfl rfl rfl (by decide +kernel)) (pi_range1 (by rfl) B.range (pa_cons (pe_ix (ix_tupK (K := K) rfl) (pv 0) pe_int (fun _ _ => rfl)) pa_nil)) (blkOk_by (own := [("x", 2)]) (N := N_neighbours_nets) (sc := defScope s_neighbours_nets) (by decide +kernel)) (fun _ _ _ _ _ => (pg_name (i := 2) nd rfl (.inl rfl) (.inr rfl))) (fun _ _ _ _ _ => pts_nil) (fun _ _ _ _ _ => (pe_lst pa_nil)))
  (pss_cons (ps_for passOwn rfl (pi_tupK (K := K) rfl (pe_ix (ix_tupK (K := K) rfl) (pv 0) pe_int (fun _ _ => rfl))) (pg_tupK (K := K) (n := 2) rfl rfl (pgs_cons (pg_name (i := 2) nd rfl (.inl rfl)) (pgs_cons (pg_name (i := 3) nd rfl (.inl rfl)) pgs_nil))) (pss_cons (ps_expr (pe_bm PySem.F.plainAttrs_list PySem.F.slot_list_append PySem.F.type_list_append mt_append (pe_ix (ix_listK (K := K) rfl) (pv 1) (pv 2) (fun _ _ => rfl)) (pa_cons (pv 3) pa_nil)))
  (pss_one (ps_expr (pe_bm PySem.F.plainAttrs_list PySem.F.slot_list_append PySem.F.type_list_append mt_append (pe_ix (ix_listK (K := K) rfl) (pv 1) (pv 3) (fun _ _ => rfl)) (pa_cons (pv 2) pa_nil))))))
  (pss_one (ps_ret (pe_lc (own := [("one", 4)]) rfl nd (pi_listK (K := K) rfl (pv 1)) (blkOk_by (own := [("one", 4)]) (N := N_neighbours_nets) (sc := defScope s_neighbours_nets) (by decide +kernel)) (fun _ _ _ _ _ => (pg_name (i := 4) nd rfl (.inl rfl) (.inr rfl))) (fun _ _ _ _ _ => pts_nil) (fun _ _ _ _ _ => (pe_callB (cr_sortedIK (K := K) rfl) (by rfl) B.sorted (by decide +kernel) (pa_cons (pv 4) pa_nil)))))))), ?_⟩
  · rintro vs H Q E ⟨v, n, ties, rfl, _⟩
    rfl
  · obtain ⟨v, n, ties, rfl, hN, hn, hg, hlt, q⟩ := h
    obtain ⟨t, u, rfl, h, t2, us, rfl, h2, pr⟩ := hN
    refine ⟨_, rfl, _, _, _, _, rfl, rfl, SqT.of h, rfl, _, rfl, by omega, by omega, fun D hD => ?_⟩
    refine comp_rows (lo := 0) (n := (n : Int).toNat) (sizeBig (by omega)) (fun _ => []) hD ?_ ?_
    · intro i H2 Yes No hi sm2 yes
      exact ⟨rfl, Nat.zero_le _, fun a ha => yes a _ (same_laid ha) ha upd_same⟩
    · intro H2 rows sm2 hy rw
      rw [show ((n : Int)).toNat = n from Int.toNat_natCast n] at rw
      have new := rw.new
      have l0 : LN H2 D rows ((List.range n).map (accL [])) := by
        refine ⟨hy, rw.1, fun h => ?_, ?_⟩
        · obtain ⟨_, _, _, h1, _⟩ := pMemL rw.2 h
          exact h1 rfl
        · have h1 := rw.2
          generalize List.range n = R at h1
          have go : ∀ {rs : List Addr} {R : List Nat}, Paired (fun a c => H2 a = some (.lst c) ∧ a ≠ D ∧ H a = none) rs (R.map fun _ => ([] : List V)) → Paired (fun a (l : List Nat) => H2 a = some (.lst (l.map pI))) rs (R.map (accL [])) := by
            intro rs R hh
            induction R generalizing rs with
            | nil => cases hh; exact .nil
            | cons r R ih =>
              cases hh with
              | cons a b => exact .cons a.1 (ih b)
          exact go h1
      refine ⟨_, rfl, _, _, _, _, rfl, rfl, SqT.of (sm2 _ _ h), rfl, t2, rfl, ⟨_, SqT.of (sm2 _ _ h2)⟩, ?_⟩
      refine for_tup (K := K) (a := t2) (xs := us) (fun i σ H1 => ∃ v2 v3, σ = [some (.ref t), some (.ref D), v2, v3, none] ∧ Same H H1 ∧ LN H1 D rows ((List.range n).map (accL (ties.take i)))) ⟨none, none, rfl, sm2, l0⟩ (fun i σ H1 _ ⟨_, _, _, s1, _⟩ => SqT.of (s1 _ _ h2)) ?_ ?_
      · rintro i x σ H1 hx ⟨v2, v3, rfl, s1, L1⟩
        obtain ⟨p, hp, tp, rfl, ht⟩ := pAtL pr hx
        have hb := hg.1 p (List.mem_of_getElem? hp)
        have hi := (List.getElem?_eq_some_iff.mp hx).1
        have hul := pr.length
        have accb : ∀ z, (accL (ties.take i) z).length < sizeLine := fun z => by
          have h3 := flat_len (fun p : Nat × Nat => (if p.1 = z then [p.2] else []) ++ (if p.2 = z then [p.1] else [])) 2 (fun p => by
            rw [List.length_append]
            split <;> split <;> simp) (ties.take i)
          refine sizeBig (Nat.le_trans h3 ?_)
          rw [List.length_take]
          omega
        refine ⟨tp, _, rfl, SqT.of (s1 _ _ ht), rfl, _, _, rfl, _, _, rfl, rfl, ?_⟩
        obtain ⟨a1, ha1, hr1⟩ := L1.at_ (i := p.1) (l := accL (ties.take i) p.1) (by simp [show p.1 < n by omega])
        refine ⟨_, rfl, _, rfl, _, _, _, .ref a1, rfl, rfl, SqL.of L1.top, atI_nat (j := p.1) ?_, .inl ⟨rfl, _, SqL.of hr1⟩, _, rfl, a1, _, _, rfl, rfl, hr1, by rw [List.length_map]; exact accb _, ?_⟩
        · rw [List.getElem?_map, ha1]
          rfl
        obtain ⟨L2, o2⟩ := L1.put (l' := accL (ties.take i) p.1 ++ [p.2]) ha1
        rw [List.map_append] at L2 o2
        have lk : ((List.range n).map (accL (ties.take i))).length = n := by simp
        obtain ⟨a3, ha3, hr3⟩ := L2.at_ (i := p.2) (l := accL (ties.take i) p.2) (by
          rw [List.getElem?_set]
          rw [if_neg (by omega)]
          simp [hb.2])
        refine ⟨_, rfl, _, rfl, _, _, _, .ref a3, rfl, rfl, SqL.of L2.top, atI_nat (j := p.2) ?_, .inl ⟨rfl, _, SqL.of hr3⟩, _, rfl, a3, _, _, rfl, rfl, hr3, by rw [List.length_map]; exact accb _, ?_⟩
        · rw [List.getElem?_map, ha3]
          rfl
        obtain ⟨L4, o4⟩ := L2.put (l' := accL (ties.take i) p.2 ++ [p.1]) ha3
        rw [List.map_append] at L4 o4
        refine ⟨_, _, rfl, Out.same s1 new (o2.trans o4), ?_⟩
        have e : (((List.range n).map (accL (ties.take i))).set p.1 (accL (ties.take i) p.1 ++ [p.2])).set p.2 (accL (ties.take i) p.2 ++ [p.1]) = (List.range n).map (accL (ties.take (i + 1))) := by
          rw [List.take_add_one, hp]
          apply List.ext_getElem?
          intro k
          rw [List.getElem?_set, List.getElem?_set]
          simp only [List.length_set, lk]
          by_cases hk : k < n
          · have hk2 : ((List.range n).map (accL (ties.take i ++ (some p).toList)))[k]? = some (accL (ties.take i ++ [p]) k) := by simp [hk]
            have hk3 : ((List.range n).map (accL (ties.take i)))[k]? = some (accL (ties.take i) k) := by simp [hk]
            rw [hk2, hk3, accL_snoc]
            by_cases h1 : p.2 = k
            · rw [if_pos h1, if_pos (by omega), if_neg (by omega), if_pos h1, h1]
              rfl
            · rw [if_neg h1, if_neg h1]
              by_cases h3 : p.1 = k
              · rw [if_pos h3, if_pos (by omega), if_pos h3, h3]
                rfl
              · rw [if_neg h3, if_neg h3]
                simp
          · have hk2 : ((List.range n).map (accL (ties.take i ++ (some p).toList)))[k]? = none := by simp; omega
            have hk3 : ((List.range n).map (accL (ties.take i)))[k]? = none := by simp; omega
            rw [hk2, hk3, if_neg (by omega), if_neg (by omega)]
        rw [e] at L4
        exact L4
      · rintro σ H1 ⟨v2, v3, rfl, s1, L1⟩
        rw [pr.length, List.take_length] at L1
        refine ⟨_, rfl, D, rfl, ⟨_, SqL.of L1.top⟩, fun D2 hD2 => ?_⟩
        have lr := L1.pr.length
        rw [List.length_map, List.length_range] at lr
        refine comp_rowsL (K := K) (ds := List.range n) (fun i => (nbL n (tieT ties) i).map pI) (fun H x i => ∃ a, x = V.ref a ∧ H a = some (.lst ((accL ties i).map pI))) hD2 L1.top (by rw [List.length_map, lr]; exact sizeBig (by omega)) (fun H' s => ?_) ?_ ?_
        · have h1 := (L1.same s).pr
          have go : ∀ {rs : List Addr} {R : List Nat}, Paired (fun a (l : List Nat) => H' a = some (.lst (l.map pI))) rs (R.map (accL ties)) → Paired (fun x i => ∃ a, x = V.ref a ∧ H' a = some (.lst ((accL ties i).map pI))) (rs.map V.ref) R := by
            intro rs R hh
            induction R generalizing rs with
            | nil => cases hh; exact .nil
            | cons r R ih =>
              cases hh with
              | cons a b => exact .cons ⟨_, rfl, a⟩ (ih b)
          exact go h1
        · rintro i x H3 Yes No hi ⟨a, rfl, ha⟩ s3 yes
          have hi := List.mem_range.mp hi
          refine ⟨rfl, _, rfl, a, (accL ties i).map fun x : Nat => (x : Int), rfl, ?_, fun ns' p pm so hp => ?_⟩
          · rw [← map_pI]
            exact SqL.of ha
          · have e : ns' = (nbL n (tieT ties) i).map fun x : Nat => (x : Int) := by
              refine sorted_is pm so (accL_nodup i (hg.2.imp fun {a b} h e => by subst e; unfold ltP at h; omega) fun p hp => (hg.1 p hp).1) (nbL_sorted _ _ _) fun k => ?_
              rw [mem_accL, mem_nbL]
              unfold tieT
              rw [decide_eq_true_eq]
              constructor
              · rintro (h | h)
                · exact ⟨(hg.1 _ h).2, .inl h⟩
                · have := hg.1 _ h
                  dsimp only at this
                  exact ⟨by omega, .inr h⟩
              · exact fun h => h.2
            rw [e, ← map_pI]
            exact yes p _ (same_laid hp) hp upd_same
        · intro H3 rows3 s3 hy3 rw3
          refine q D2 H3 (s1.trans s3) (gone s1 hD2) ⟨rows3, hy3, rw3.1, fun h => ?_, ?_⟩
          · obtain ⟨_, _, _, h1, _⟩ := pMemL rw3.2 h
            exact h1 rfl
          · have go : ∀ {rs : List Addr} {R : List Nat}, Paired (fun a c => H3 a = some (.lst c) ∧ a ≠ D2 ∧ H1 a = none) rs (R.map fun i => (nbL n (tieT ties) i).map pI) → Paired (fun a (l : List Nat) => H3 a = some (.lst (l.map pI))) rs (R.map (nbL n (tieT ties))) := by
              intro rs R hh
              induction R generalizing rs with
              | nil => cases hh; exact .nil
              | cons r R ih =>
                cases hh with
                | cons a b => exact .cons a.1 (ih b)
            exact go rw3.2
/-! ### points -/
def sp_is_point : Sp := fun vs H Q _ => ∃ (v : V) (n x : Nat) (ties : List (Nat × Nat)), vs = [v, pI x] ∧ Net H v n ties ∧ Q (.bl (decide (x < n))) H
theorem cal_is_point (A : At K mg "is_point" s_is_point) (B : Bi mg) (c_is_number : Cal P w K mg base 1 "is_number" (sp_is_number K)) : Cal P w K mg base 2 "is_point" sp_is_point := by
  have nd := sc_is_point.nd
  refine A.cal sc_is_point (fun _ _ _ _ _ _ us hl => match us, hl with | [_, _], _ => rfl) ?_ fun f cdv A' outer s H vs Q E hr h => ⟨_, (pss_one (ps_ret (pe_and (pe_cal c_is_number hr (by first | decide | omega) (by rfl) passE (pa_cons (pv 1) pa_nil)) (pe_one (pe_chain op_le op_lt pe_int (pv 1) (pe_ix (ix_tupK (K := K) rfl) (pv 0) pe_int (fun _ _ => rfl))))))), ?_⟩
  · rintro vs H Q E ⟨v, n, x, ties, rfl, _⟩
    rfl
  · obtain ⟨v, n, x, ties, rfl, hN, q⟩ := h
    obtain ⟨t, u, rfl, h, _⟩ := hN
    refine ⟨_, rfl, _, .int (x : Int), rfl, .int _, _, rfl, iteT ?_⟩
    refine ⟨_, rfl, _, _, rfl, rfl, _, rfl, ifD (fun _ => ?_) (fun c => absurd (by omega) c)⟩
    refine ⟨_, rfl, _, _, _, _, rfl, rfl, SqT.of h, rfl, _, _, rfl, rfl, ?_⟩
    have e : decide ((x : Int) < (n : Int)) = decide (x < n) := decide_eq_decide.mpr (by omega)
    rw [← e] at q
    exact q
def sp_check_points : Sp := fun vs H Q _ => ∃ (v : V) (n : Nat) (ties : List (Nat × Nat)) (t : Addr) (xs : List Nat), vs = [v, .ref t] ∧ Net H v n ties ∧ H t = some (.tup (xs.map pI)) ∧ (∀ x ∈ xs, x < n) ∧ xs.Nodup ∧ xs.length ≤ 100 ∧ Q .non H
theorem cal_check_points {CP : Addr} (A : At K mg "check_points" s_check_points) (B : Bi mg) (x_BadPoint : ExcC K mg "BadPoint" CP) (c_is_point : Cal P w K mg base 2 "is_point" sp_is_point) : Cal P w K mg base 3 "check_points" sp_check_points := by
  have nd := sc_check_points.nd
  refine A.cal sc_check_points (fun _ _ _ _ _ _ us hl => match us, hl with | [_, _], _ => rfl) ?_ fun f cdv A' outer s H vs Q E hr h => ⟨_, (pss_cons (ps_for passOwn rfl (pi_tupK (K := K) rfl (pv 1)) (pg_name (i := 2) nd rfl (.inl rfl)) (pss_one (ps_if (pt_not (pt_val (pe_cal c_is_point hr (by first | decide | omega) (by rfl) passE (pa_cons (pv 0) (pa_cons (pv 2) pa_nil))))) (pss_one (ps_raise rfl (takes_of rfl rfl rfl rfl) (pmk_own0 PySem.F.excBase_ValueError x_BadPoint.ex x_BadPoint.g x_BadPoint.kp (raises_own x_BadPoint.sub x_BadPoint.ty) (by rfl)))) pss_nil)))
  (pss_one (ps_if (pt_cmpR op_ne (pe_lenSetT (K := K) rfl rfl (by rfl) B.len (by rfl) B.set_ (pv 1)) (pe_callB (call_lenK (K := K) rfl) (by rfl) B.len (by decide +kernel) (pa_cons (pv 1) pa_nil)) (nomark _)) (pss_one (ps_raise rfl (takes_of rfl rfl rfl rfl) (pmk_own0 PySem.F.excBase_ValueError x_BadPoint.ex x_BadPoint.g x_BadPoint.kp (raises_own x_BadPoint.sub x_BadPoint.ty) (by rfl)))) pss_nil))), ?_⟩
  · rintro vs H Q E ⟨v, n, ties, t, xs, rfl, _⟩
    rfl
  · obtain ⟨v, n, ties, t, xs, rfl, hN, ht, hx, nd2, hl, q⟩ := h
    refine ⟨_, rfl, t, rfl, ⟨_, SqT.of ht⟩, for_tup (K := K) (a := t) (xs := xs.map pI) (fun i σ H1 => ∃ v2, σ = [some v, some (.ref t), v2] ∧ H1 = H) ⟨none, rfl, rfl⟩ (fun i σ H1 _ ⟨_, _, e⟩ => by rw [e]; exact SqT.of ht) ?_ ?_⟩
    · rintro i y σ H1 hy ⟨v2, rfl, rfl⟩
      rw [List.getElem?_map] at hy
      obtain ⟨x, hx1, rfl⟩ := Option.map_eq_some_iff.mp hy
      have hxn := hx x (List.mem_of_getElem? hx1)
      refine ⟨_, rfl, _, rfl, v, n, x, ties, rfl, hN, _, rfl, ?_⟩
      rw [decide_eq_true hxn]
      exact iteF ⟨_, rfl, rfl⟩
    · rintro σ H1 ⟨v2, rfl, rfl⟩
      refine ⟨_, rfl, t, xs.map (fun x : Nat => (x : Int)), rfl, ?_, by rw [List.length_map]; omega, fun es nde hes => ?_⟩
      · rw [← map_pI]
        exact SqT.of ht
      have e : es.length = xs.length := by
        have nd3 : (xs.map fun x : Nat => (x : Int)).Nodup := by
          rw [List.Nodup, List.pairwise_map]
          exact nd2.imp fun {a b} h e => h (by omega)
        have pm := (List.perm_ext_iff_of_nodup nde nd3).mpr hes
        rw [pm.length_eq, List.length_map]
      refine ⟨_, rfl, _, _, rfl, .inr ⟨_, SqT.of ht, rfl⟩, rfl, _, rfl, ifNI (fun c => absurd ?_ c) (fun _ => q)⟩
      rw [e, List.length_map]
end
end Ns

/-! Own layer: comprehensions over tuples of any data, by place; reads of tables by expressions. -/
namespace Ns
open PySem PySem.Spec PyProof.Rows L2
def PtB (_ : Hp) (v : V) (b : Bool) : Prop := v = .bl b
theorem persPtB : PersT PtB := fun _ _ _ _ _ h => h
theorem pairedB_eq {H : Hp} : ∀ {vs : List V} {bs : List Bool}, Paired (PtB H) vs bs → vs = bs.map V.bl
  | _, _, .nil => rfl
  | _, _, .cons h t => by rw [h, pairedB_eq t]; rfl
theorem fm_some {α β : Type} (g : α → β) : ∀ l : List α, (l.filterMap fun x => some (g x)) = l.map g
  | [] => rfl
  | x :: r => by rw [List.filterMap_cons, fm_some g r]; rfl
theorem range_fm_succ {β : Type} (f : Nat → Option β) (i : Nat) : (List.range (i + 1)).filterMap f = (List.range i).filterMap f ++ (f i).toList := by
  rw [List.range_succ, List.filterMap_append]
  cases h : f i <;> simp [h]
section
variable {β : Type} {D : Addr} {g : TG} {tt : TT} {te : TE} {vs : List Nat} {σ : L2.St} {H1 : Hp} {Qd : Hp → Prop}
theorem comp_tupI {K : PySem.W.Frag} {a : Addr} {us : List V} (f : Nat → Option β) {R : Hp → V → β → Prop} (hR : PersT R) (hD : H1 D = none)
    (hl : SqT K H1 a us) (hn : us.length < sizeLine)
    (hs : ∀ (i : Nat) (x : V) (H : Hp) (Yes : V → Hp → Prop) (No : Hp → Prop), us[i]? = some x → Same H1 H → (∀ a, f i = some a → ∀ y H4, Same H H4 → R H4 y a → Yes y H4) → (f i = none → ∀ H4, Same H H4 → No H4) →
      g x (wipe σ vs) H fun σ2 H2 => wipe σ2 vs = wipe σ vs ∧ tt σ2 H2 fun b H3 => if b = true then te σ2 H3 Yes else No H3)
    (hd : ∀ H ys, Same H1 H → H D = some (.lst ys) → Paired (R H) ys ((List.range us.length).filterMap f) → Qd H) :
    ∃ W : Nat → Nat → Hp → Prop, (∃ m, W 0 m (upd H1 D (.lst []))) ∧ ∀ i m H, W i m H →
      ((Itt K a).stop i H ∧ Qd H) ∨ ((Itt K a).go i H ∧ ∃ Nx : Hp → Prop, (∀ H', Nx H' → ∃ m', m' < m ∧ W (i + 1) m' H') ∧ ∀ x H', (Itt K a).yld i H x H' → g x (wipe σ vs) H' fun σ2 H2 => wipe σ2 vs = wipe σ vs ∧ tt σ2 H2 fun b H3 =>
        if b = true then te σ2 H3 fun y H4 => ∃ acc, H4 D = some (.lst acc) ∧ acc.length < sizeLine ∧ Nx (upd H4 D (.lst (acc ++ [y]))) else Nx H3) := by
  refine lc_tup (K := K) (a := a) (xs := us) (fun i H => Same H1 H ∧ ∃ ys, H D = some (.lst ys) ∧ Paired (R H) ys ((List.range i).filterMap f)) ⟨same_laid hD, [], upd_same, by simpa using Paired.nil⟩ (fun i H _ p => sqT_same p.1 hl) ?_ ?_
  · rintro i x H hi ⟨sm, ys, hy, pr⟩
    have hil := (List.getElem?_eq_some_iff.mp hi).1
    have hll : ys.length < sizeLine := by
      have := pr.length
      have h2 := List.length_filterMap_le f (List.range i)
      rw [List.length_range] at h2
      omega
    refine hs i x H _ _ hi sm (fun a ha y H4 s4 r4 => ?_) (fun ha H4 s4 => ?_)
    · refine ⟨ys, s4 _ _ hy, hll, sPut (sm.trans s4) hD, ys ++ [y], upd_same, ?_⟩
      rw [range_fm_succ, ha]
      have k : KeepT H4 (upd H4 D (.lst (ys ++ [y]))) := KeepT.lst (s4 _ _ hy)
      exact pApp (pMono hR (KeepT.trans (sKt s4) k) pr) (.cons (hR _ _ _ _ k r4) .nil)
    · refine ⟨sm.trans s4, ys, s4 _ _ hy, ?_⟩
      rw [range_fm_succ, ha]
      simpa using pMono hR (sKt s4) pr
  · rintro H ⟨sm, ys, hy, pr⟩
    exact hd H ys sm hy pr
end
section
variable {K : PySem.W.Frag} {H : Hp} {m : Addr} {rows : List Addr} {n : Nat} {T : Tm} {σ : L2.St} {Q : VK}
/-- m[..][..] -/
theorem rdMx {i x y : Nat} {t1 t2 : TE} (M : Mat H m rows n T) (hm : σ[i]? = some (some (.ref m))) (lx : x < n) (ly : y < n) (h1 : ∀ Q : VK, Q (pI x) H → t1 σ H Q) (h2 : ∀ Q : VK, Q (pI y) H → t2 σ H Q) (q : Q (.bl (T x y)) H) :
    tOp (rIxL K) (tOp (rIxL K) (tVar i) t1) t2 σ H Q := by
  obtain ⟨a, ha, hr⟩ := M.row lx
  refine ⟨_, hm, h1 _ ⟨_, _, _, .ref a, rfl, rfl, SqL.of M.top, atI_nat (j := x) ?_, h2 _ ⟨_, _, _, _, rfl, rfl, SqL.of hr, atI_nat (j := y) (rowV_at ly), q⟩⟩⟩
  rw [List.getElem?_map, ha]
  rfl
end
theorem atI_neg {α : Type} {xs : List α} {v : α} {j k : Nat} (h : xs[j]? = some v) (e : j + k = xs.length) (hk : 0 < k) : atI xs (-(k : Int)) = some v := by
  have hj := (List.getElem?_eq_some_iff.mp h).1
  unfold atI ixN
  rw [if_neg (by omega), if_pos (by omega)]
  show xs[((-(k : Int)) + (xs.length : Int)).toNat]? = some v
  rw [show ((-(k : Int)) + (xs.length : Int)).toNat = j by omega]
  exact h
/-- the place before k, round -/
def prv (xs : List Nat) (k : Nat) : Nat := xs.getD ((k + xs.length - 1) % xs.length) 0
theorem atI_prev {xs : List Nat} {k : Nat} (hk : k < xs.length) : atI (xs.map pI) ((k : Int) - 1) = some (pI (prv xs k)) := by
  unfold prv
  by_cases e : k = 0
  · subst e
    have hl : (0 + xs.length - 1) % xs.length = xs.length - 1 := by rw [Nat.mod_eq_of_lt (by omega)]; omega
    rw [hl]
    have h : (xs.map pI)[xs.length - 1]? = some (pI (xs.getD (xs.length - 1) 0)) := by
      rw [List.getElem?_map, List.getElem?_eq_getElem (by omega), List.getD_eq_getElem?_getD, List.getElem?_eq_getElem (by omega)]
      rfl
    exact atI_neg (k := 1) h (by rw [List.length_map]; omega) (by omega)
  · have hl : (k + xs.length - 1) % xs.length = k - 1 := by
      rw [show k + xs.length - 1 = (k - 1) + xs.length by omega, Nat.add_mod_right, Nat.mod_eq_of_lt (by omega)]
    rw [hl]
    have h : (xs.map pI)[k - 1]? = some (pI (xs.getD (k - 1) 0)) := by
      rw [List.getElem?_map, List.getElem?_eq_getElem (by omega), List.getD_eq_getElem?_getD, List.getElem?_eq_getElem (by omega)]
      rfl
    have := atI_nat h
    rwa [show ((k - 1 : Nat) : Int) = (k : Int) - 1 by omega] at this
theorem prv_mem {xs : List Nat} {k : Nat} (hk : k < xs.length) : prv xs k ∈ xs := by
  unfold prv
  have h : (k + xs.length - 1) % xs.length < xs.length := Nat.mod_lt _ (by omega)
  rw [List.getD_eq_getElem?_getD, List.getElem?_eq_getElem h]
  exact List.getElem_mem h
theorem getD_mem {xs : List Nat} {k : Nat} (hk : k < xs.length) : xs.getD k 0 ∈ xs := by
  rw [List.getD_eq_getElem?_getD, List.getElem?_eq_getElem hk]
  exact List.getElem_mem hk
theorem atI_getD {xs : List Nat} {k : Nat} (hk : k < xs.length) : atI (xs.map pI) (k : Int) = some (pI (xs.getD k 0)) := by
  refine atI_nat ?_
  rw [List.getElem?_map, List.getElem?_eq_getElem hk, List.getD_eq_getElem?_getD, List.getElem?_eq_getElem hk]
  rfl
end Ns

/-! Own layer: counting by a tree. -/
namespace Ns
open PySem PySem.Spec PyProof.Rows L2
local macro_rules | `(tactic| walk_at "look") => `(tactic| first | assumption | exact upd_same | (refine (upd_ne (by first | assumption | exact Ne.symm (by assumption))).trans ?_; walk_at "look"))
local macro_rules | `(tactic| walk_at "cond") => `(tactic| first | assumption | omega | (dsimp only; omega) | exact ⟨by omega, by omega⟩ | decide | exact ⟨by decide, by decide, by decide⟩ | exact .inr ⟨by decide, by decide⟩ | exact .inl ⟨by decide, by decide⟩ | exact .inr ⟨by omega, by omega⟩ | exact .inl ⟨by omega, by omega⟩)
local macro_rules | `(tactic| walk_at "rd1") => `(tactic| first
  | refine ⟨_, rfl, ?_⟩
  | refine ⟨_, _, rfl, rfl, ?_⟩
  | refine ⟨rfl, ?_⟩
  | refine ⟨_, _, rfl, rfl, (by walk_at "cond"), ?_⟩
  | refine ⟨_, _, _, _, rfl, rfl, SqL.of (by walk_at "look"), rfl, ?_⟩
  | refine ⟨_, _, _, _, rfl, rfl, SqT.of (by walk_at "look"), rfl, ?_⟩
  | refine ⟨_, _, _, _, rfl, rfl, (by walk_at "look"), rfl, ?_⟩
  | refine .inl ⟨_, rfl, ?_⟩
  | refine ⟨.inl ⟨rfl, _, SqL.of (by walk_at "look")⟩, ?_⟩
  | refine ⟨_, _, rfl, ⟨by omega, by omega, by omega, by omega⟩, ?_⟩
  | refine ⟨_, rfl, (by omega), (by omega), ?_⟩
  | refine And.intro (by walk_at "cond") ?_)
local macro_rules | `(tactic| walk_at "rd") => `(tactic| repeat (walk_at "rd1"))


theorem cotrs_len {T : Tm} : ∀ {Ls : List (List Nat)} {ds : List PyData}, CoTrs T Ls ds → ds.length = Ls.length
  | _, _, .nil => rfl
  | _, _, .cons _ t => by rw [List.length_cons, List.length_cons, cotrs_len t]
mutual
theorem cotr_ne {T : Tm} : ∀ {ps : List Nat} {d : PyData}, CoTr T ps d → ps ≠ []
  | _, _, .leaf x => List.cons_ne_nil _ _
  | _, _, .node how pm l2 two cts => fun e => by
    have h1 := (len_part (cotrs_ne cts)).1
    have h2 := pm.length_eq
    rw [e, List.length_nil] at h2
    omega
theorem cotrs_ne {T : Tm} : ∀ {Ls : List (List Nat)} {ds : List PyData}, CoTrs T Ls ds → ∀ L ∈ Ls, L ≠ []
  | _, _, .nil, L, h => nomatch h
  | _, _, .cons a t, L, h => by
    rcases List.mem_cons.mp h with e | h
    · rw [e]
      exact cotr_ne a
    · exact cotrs_ne t L h
end
theorem cotrs_at {T : Tm} : ∀ {Ls : List (List Nat)} {ds : List PyData} {i : Nat} {d : PyData}, CoTrs T Ls ds → ds[i]? = some d → ∃ L, Ls[i]? = some L ∧ CoTr T L d
  | _, _, _, _, .nil, h => by simp at h
  | _, _, 0, _, .cons a _, h => by simp at h; subst h; exact ⟨_, rfl, a⟩
  | _, _, i + 1, _, .cons _ t, h => by
    obtain ⟨L, h1, h2⟩ := cotrs_at (i := i) t (by simpa using h)
    exact ⟨L, by simpa using h1, h2⟩
theorem ifNDc {p : Prop} [Decidable p] {A B : Prop} (h1 : ¬ p → A) (h2 : p → B) : if (!decide p) = true then A else B := ifN (fun c => h1 (of_decide_eq_false c)) (fun c => h2 (of_decide_eq_true c))
theorem foldr_snocN (x : Nat) : ∀ l : List Nat, (l ++ [x]).foldr (· * ·) 1 = l.foldr (· * ·) 1 * x
  | [] => by rw [List.nil_append, List.foldr_cons, List.foldr_nil, Nat.mul_one, Nat.one_mul]
  | a :: l => by rw [List.cons_append, List.foldr_cons, List.foldr_cons, foldr_snocN x l, Nat.mul_assoc]
theorem range_getD {β : Type} (f : List Nat → β) : ∀ (Ls : List (List Nat)) {n : Nat}, n = Ls.length → ((List.range n).map fun i => f (Ls.getD i [])) = Ls.map f := fun Ls n h => by
  subst h
  refine List.ext_getElem? fun i => ?_
  rw [List.getElem?_map, List.getElem?_map]
  by_cases c : i < Ls.length
  · rw [List.getElem?_range c, List.getElem?_eq_getElem c]
    show some (f (Ls.getD i [])) = some _
    rw [List.getD_eq_getElem?_getD, List.getElem?_eq_getElem c]
    rfl
  · rw [List.getElem?_eq_none_iff.mpr (by rw [List.length_range]; omega), List.getElem?_eq_none_iff.mpr (by omega)]
    rfl
theorem sum_cast (f : List Nat → Nat) : ∀ Ls : List (List Nat), (((Ls.map f).sum : Nat) : Int) = (Ls.map fun L => (f L : Int)).sum
  | [] => rfl
  | A :: r => by
    rw [List.map_cons, List.map_cons, List.sum_cons, List.sum_cons, ← sum_cast f r]
    omega
section
variable {P : Program} {w : World} {K : PySem.W.Frag} {mg : Str → Option Value} {base : Heap}
def eT (T : Tm) (h0 : Bool) : Nat → Nat → Bool := fun x y => T x y == !h0
def sp_cbt (g : Nat) : Sp := fun vs H Q _ => ∃ (v : V) (d : PyData) (T : Tm) (ps : List Nat) (h0 : Bool), vs = [v, .str (sortS h0)] ∧ TN 40 H v d ∧ CoTr T ps d ∧ SyT T ∧ ps.length ≤ g ∧ ps.length ≤ 40 ∧ ∀ H', Same H H' → Q (.int ((clN (eT T h0) ps - 1 : Nat) : Int)) H'
end
end Ns

/-! Own layer: kinds checked (not beside A07, J10I, which hold the same). -/
namespace Ns
open PySem PySem.Spec PyProof.Rows L2
local macro_rules | `(tactic| walk_at "look") => `(tactic| first | assumption | exact upd_same | (refine (upd_ne (by first | assumption | exact Ne.symm (by assumption))).trans ?_; walk_at "look"))
local macro_rules | `(tactic| walk_at "cond") => `(tactic| first | assumption | omega | (dsimp only; omega) | exact ⟨by omega, by omega⟩ | decide | exact ⟨by decide, by decide, by decide⟩ | exact .inr ⟨by decide, by decide⟩ | exact .inl ⟨by decide, by decide⟩ | exact .inr ⟨by omega, by omega⟩ | exact .inl ⟨by omega, by omega⟩)
local macro_rules | `(tactic| walk_at "rd1") => `(tactic| first
  | refine ⟨_, rfl, ?_⟩
  | refine ⟨_, _, rfl, rfl, ?_⟩
  | refine ⟨rfl, ?_⟩
  | refine ⟨_, _, rfl, rfl, (by walk_at "cond"), ?_⟩
  | refine ⟨_, _, _, _, rfl, rfl, SqL.of (by walk_at "look"), rfl, ?_⟩
  | refine ⟨_, _, _, _, rfl, rfl, SqT.of (by walk_at "look"), rfl, ?_⟩
  | refine ⟨_, _, _, _, rfl, rfl, (by walk_at "look"), rfl, ?_⟩
  | refine .inl ⟨_, rfl, ?_⟩
  | refine ⟨.inl ⟨rfl, _, SqL.of (by walk_at "look")⟩, ?_⟩
  | refine ⟨_, _, rfl, ⟨by omega, by omega, by omega, by omega⟩, ?_⟩
  | refine ⟨_, rfl, (by omega), (by omega), ?_⟩
  | refine And.intro (by walk_at "cond") ?_)
local macro_rules | `(tactic| walk_at "rd") => `(tactic| repeat (walk_at "rd1"))

abbrev N_check_kind : List Str := ["kind", "among"]
theorem sc_check_kind : FnScope N_check_kind ["kind", "among"] (defScope s_check_kind) := ⟨rfl, rfl, rfl, by decide +kernel, rfl, by decide +kernel, by decide +kernel⟩
theorem op_notInKd {X : Cx} {K : PySem.W.Frag} (hK : X.K = K) : OpR X (compareOp .NotIn) (fun x y H Q => ∃ (p : Addr) (z : Str) (es : Array DictEntry) (n : Nat) (u : Value), x = .str z ∧ y = .ref p ∧ KDict K X.w p es n ∧ PySem.W.nsIn K p z = some (some u) ∧ Q (.bl false) H) := by
  subst hK
  intro pins s σ H x y v u Q I rx ry h
  obtain ⟨p, z, es, n, u0, rfl, rfl, D, e, q⟩ := h
  exact op_notIn_kd D pins s σ H _ _ v u Q I rx ry ⟨z, some u0, rfl, rfl, e, q⟩
section
variable {P : Program} {w : World} {K : PySem.W.Frag} {mg : Str → Option Value} {base : Heap}
theorem flat_strs : ∀ ys : List Str, (ys.map V.str).all flatV = true
  | [] => rfl
  | _ :: r => by rw [List.map_cons, List.all_cons, flat_strs r]; rfl
def sp_check_kind (K : PySem.W.Frag) : Sp := fun vs H Q _ => ∃ (z : Str) (a : Addr) (ys : List Str), vs = [.str z, .ref a] ∧ SqT K H a (ys.map V.str) ∧ inV (.str z) (ys.map V.str) = true ∧ ∀ H', Same H H' → Q .non H'
theorem cal_check_kind {CK aK : Addr} (A : AtD K mg "check_kind" s_check_kind [.ref aK]) (B : Bi mg) (x_BadKind : ExcC K mg "BadKind" CK) : CalD P w K mg base 1 "check_kind" [.ref aK] (sp_check_kind K) := by
  have nd := sc_check_kind.nd
  refine A.cal sc_check_kind 1 (by simp) rfl (fun _ _ _ _ _ _ _ us its hu hi => match us, its, hu, hi with | [_], [_], _, _ => ⟨_, rfl, rfl⟩) ?_ fun f cdv A' outer s H vs Q E hr h => ⟨_, (pss_one (ps_if (PW.pt (pw_or (pt_not (pt_val (pe_callB (call_isiK' (K := K) rfl) (by rfl) B.isinstance (by decide +kernel) (pa_cons (pv 0) (pa_cons (pe_bltn (v := .ty "str") (u := .type "str") (by rfl) B.str_ (by decide +kernel) rfl) pa_nil))))) (pw_or1 (pt_cmpR (op_notIn_seqK (K := K) rfl) (pv 0) (pv 1) rfl)))) (pss_one (ps_raise rfl (takes_of rfl rfl rfl rfl) (pmk_own0 PySem.F.excBase_ValueError x_BadKind.ex x_BadKind.g x_BadKind.kp (raises_own x_BadKind.sub x_BadKind.ty) (by rfl)))) pss_nil)), ?_⟩
  · rintro vs H Q E ⟨z, a, ys, rfl, _⟩
    rfl
  · obtain ⟨z, a, ys, rfl, hs, hin, q⟩ := h
    have hz : Dp K H (.str z) (.str z) := .str z
    refine ⟨_, rfl, _, .ty "str", .type (tyName _), .type "str", _, rfl, .ty _, tyX_of hz, kit_ty (kit_isi _ "str" (by simp)), ?_⟩
    rw [isi_str]
    refine ⟨_, rfl, ifB (fun c => by cases c) (fun _ => ?_)⟩
    refine ⟨_, rfl, _, rfl, a, _, rfl, .inr hs, rfl, flat_strs ys, _, rfl, ?_⟩
    rw [hin]
    exact iteF (q H (Same.refl H))
end
end Ns

/-! Own layer: companies, rests. -/
namespace Ns
open PySem PySem.Spec PyProof.Rows L2
local macro_rules | `(tactic| walk_at "look") => `(tactic| first | assumption | exact upd_same | (refine (upd_ne (by first | assumption | exact Ne.symm (by assumption))).trans ?_; walk_at "look"))
local macro_rules | `(tactic| walk_at "cond") => `(tactic| first | assumption | omega | (dsimp only; omega) | exact ⟨by omega, by omega⟩ | decide | exact ⟨by decide, by decide, by decide⟩ | exact .inr ⟨by decide, by decide⟩ | exact .inl ⟨by decide, by decide⟩ | exact .inr ⟨by omega, by omega⟩ | exact .inl ⟨by omega, by omega⟩)
local macro_rules | `(tactic| walk_at "rd1") => `(tactic| first
  | refine ⟨_, rfl, ?_⟩
  | refine ⟨_, _, rfl, rfl, ?_⟩
  | refine ⟨rfl, ?_⟩
  | refine ⟨_, _, rfl, rfl, (by walk_at "cond"), ?_⟩
  | refine ⟨_, _, _, _, rfl, rfl, SqL.of (by walk_at "look"), rfl, ?_⟩
  | refine ⟨_, _, _, _, rfl, rfl, SqT.of (by walk_at "look"), rfl, ?_⟩
  | refine ⟨_, _, _, _, rfl, rfl, (by walk_at "look"), rfl, ?_⟩
  | refine .inl ⟨_, rfl, ?_⟩
  | refine ⟨.inl ⟨rfl, _, SqL.of (by walk_at "look")⟩, ?_⟩
  | refine ⟨_, _, rfl, ⟨by omega, by omega, by omega, by omega⟩, ?_⟩
  | refine ⟨_, rfl, (by omega), (by omega), ?_⟩
  | refine And.intro (by walk_at "cond") ?_)
local macro_rules | `(tactic| walk_at "rd") => `(tactic| repeat (walk_at "rd1"))

abbrev N_tell : List Str := ["net", "kind"]
theorem sc_tell : FnScope N_tell ["net", "kind"] (defScope s_tell) := ⟨rfl, rfl, rfl, by decide +kernel, rfl, by decide +kernel, by decide +kernel⟩
theorem pw_part {T : Tm} (S : SyT T) {k : Bool} {Ls : List (List Nat)} (h : Ls.Pairwise fun A B => ∀ x ∈ A, ∀ y ∈ B, T x y = k) {L : List Nat} {i : Nat} (hL : Ls[i]? = some L) {x y : Nat} (hx : x ∈ L) (hy : y ∈ Ls.flatten) (ne : T x y ≠ k) : y ∈ L := by
  obtain ⟨B, hB, hyB⟩ := List.mem_flatten.mp hy
  obtain ⟨j, hj⟩ := List.getElem?_of_mem hB
  obtain ⟨hi1, hi2⟩ := List.getElem?_eq_some_iff.mp hL
  obtain ⟨hj1, hj2⟩ := List.getElem?_eq_some_iff.mp hj
  rcases Nat.lt_trichotomy i j with c | c | c
  · have := List.pairwise_iff_getElem.mp h i j hi1 hj1 c x (by rw [hi2]; exact hx) y (by rw [hj2]; exact hyB)
    exact absurd this ne
  · subst c
    rw [← hi2, hj2]
    exact hyB
  · have := List.pairwise_iff_getElem.mp h j i hj1 hi1 c y (by rw [hj2]; exact hyB) x (by rw [hi2]; exact hx)
    rw [S.sy] at this
    exact absurd this ne
mutual
theorem cotr_no {T : Tm} (S : SyT T) : ∀ {ps : List Nat} {d : PyData}, CoTr T ps d → ¬ P4 T ps
  | _, _, .leaf x => fun ⟨a, b, c, d, ha, hb, hc, hd, h, _⟩ => by
    rw [List.mem_singleton.mp ha, List.mem_singleton.mp hb, S.ir] at h
    cases h
  | _, _, .node how pm l2 two cts => fun ⟨a, b, c, d, ha, hb, hc, hd, h1, h2, h3, h4, h5, h6⟩ => by
    have inF : ∀ {x}, x ∈ _ → x ∈ _ := fun {x} h => pm.mem_iff.mpr h
    obtain ⟨L, hLm, haL⟩ := List.mem_flatten.mp (inF ha)
    obtain ⟨i, hL⟩ := List.getElem?_of_mem hLm
    have st : ∀ {x y}, x ∈ L → y ∈ _ → T x y ≠ !how → y ∈ L := fun {x y} hx hy ne => pw_part S two hL hx (inF hy) ne
    refine cotrs_no S cts L hLm ?_
    cases how with
    | true =>
      have hbL := st haL hb (by rw [h1]; decide)
      have hcL := st hbL hc (by rw [h2]; decide)
      have hdL := st hcL hd (by rw [h3]; decide)
      exact ⟨a, b, c, d, haL, hbL, hcL, hdL, h1, h2, h3, h4, h5, h6⟩
    | false =>
      have hcL := st haL hc (by rw [h4]; decide)
      have hdL := st haL hd (by rw [h6]; decide)
      have hbL := st hdL hb (by rw [S.sy, h5]; decide)
      exact ⟨a, b, c, d, haL, hbL, hcL, hdL, h1, h2, h3, h4, h5, h6⟩
theorem cotrs_no {T : Tm} (S : SyT T) : ∀ {Ls : List (List Nat)} {ds : List PyData}, CoTrs T Ls ds → ∀ L ∈ Ls, ¬ P4 T L
  | _, _, .nil, L, h => nomatch h
  | _, _, .cons a t, L, h => by
    rcases List.mem_cons.mp h with e | h
    · rw [e]
      exact cotr_no S a
    · exact cotrs_no S t L h
end
theorem cotr_none {T : Tm} {ps : List Nat} (h : CoTr T ps .none) : False := by cases h
section
variable {P : Program} {w : World} {K : PySem.W.Frag} {mg : Str → Option Value} {base : Heap}
def sp_tellC (g : Nat) : Sp := fun vs H Q _ => ∃ (v : V) (n : Nat) (ties : List (Nat × Nat)), vs = [v, .str "cograph"] ∧ Net H v n ties ∧ n ≤ 40 ∧ n ≤ g ∧ Good n ties ∧ ∀ (t : Addr) H', Same H H' → ToldC H' n ties t → Q (.ref t) H'
theorem cal_tellC {g kT : Nat} (hkT : 4 ≤ kT) {CB aK a_TELLERS fk : Addr} {ys : List Str} (A : At K mg "tell" s_tell) (B : Bi mg) (c_check_net : Cal P w K mg base 4 "check_net" (sp_check_net K CB)) (c_check_kind : CalD P w K mg base 1 "check_kind" [.ref aK] (sp_check_kind K))
    (hK : ∀ H, SqT K H aK (ys.map V.str)) (hin : inV (.str "cograph") (ys.map V.str) = true) (c_TELLERS : mg "TELLERS" = some (.ref a_TELLERS)) (hD : KDct K w a_TELLERS "cograph" (.ref fk)) (hf : mg "cograph_of" = some (.ref fk)) (c_of : Cal P w K mg base kT "cograph_of" (sp_cograph_of g)) : Cal P w K mg base (kT + 1) "tell" (sp_tellC g) := by
  have nd := sc_tell.nd
  have c_check_net := c_check_net.mono hkT
  refine A.cal sc_tell (fun _ _ _ _ _ _ us hl => match us, hl with | [_, _], _ => rfl) ?_ fun f cdv A' outer s H vs Q E hr h => ⟨_, (pss_cons (ps_expr (pe_cal c_check_net hr (by first | decide | omega) (by rfl) passE (pa_cons (pv 0) pa_nil)))
  (pss_cons (ps_expr (pe_calD c_check_kind hr (by first | decide | omega) (by rfl) passE (pa_cons (pv 1) pa_nil)))
  (pss_one (ps_ret (pe_callV (k := kT) hr (by omega) (pe_ix ix_kdict (pe_glob (v := .ref a_TELLERS) rfl c_TELLERS rfl) (pv 1) (fun _ _ => rfl)) passE (pa_cons (pv 0) pa_nil)))))), ?_⟩
  · rintro vs H Q E ⟨v, n, ties, rfl, _⟩
    rfl
  · obtain ⟨v, n, ties, rfl, hN, hn, hng, hg, q⟩ := h
    refine ⟨_, rfl, v, netD n ties, rfl, dp_net hN, fun _ H0 s0 => ?_, fun e => by rw [isNetD_net.mpr ⟨hn, hg⟩] at e; cases e⟩
    refine ⟨_, rfl, "cograph", aK, ys, rfl, hK H0, hin, fun H1 s1 => ?_⟩
    have s01 := s0.trans s1
    refine ⟨_, rfl, a_TELLERS, "cograph", .ref fk, rfl, rfl, hD, "cograph_of", fk, sp_cograph_of g, rfl, hf, c_of, ?_⟩
    exact ⟨_, rfl, v, n, ties, rfl, hN.keep (sKt s01), hn, hng, hg, fun t H2 e2 co => q t H2 (s01.trans e2) co⟩
end
end Ns

/-! Own layer: {t: v}, t a tuple. -/
namespace Ns
open PySem PySem.Spec PyProof.Rows L2
/-- {k: v} with one key, a tuple of ints and texts -/
def tDispT1 (tk tv : TE) : TE := fun σ H Q => ∀ p, H p = none → tk σ (upd H p (.dT [])) fun x H1 => tv σ H1 fun y H2 => ∃ (k : List Key) (b : Addr), x = .ref b ∧ H2 b = some (.tup (k.map kV)) ∧ H2 p = some (.dT []) ∧ Q (.ref p) (upd H2 p (.dT [(k, y)]))
def QT1 (p : Addr) (Q : VK) : List (V × V) → Hp → Prop
  | [(x, y)], H2 => ∃ (k : List Key) (b : Addr), x = .ref b ∧ H2 b = some (.tup (k.map kV)) ∧ H2 p = some (.dT []) ∧ Q (.ref p) (upd H2 p (.dT [(k, y)]))
  | _, _ => False
theorem pe_dispT1 {X : Cx} {pos : Pos} {k v : Expr} {tk tv : TE} (hu : X.A.units < cLine) (hk : PE X k tk) (hv : PE X v tv) : PE X (.Dict [some k] [v] pos) (tDispT1 tk tv) := by
  refine ⟨fun pins s σ H Q I q => ?_⟩
  have hn := I.hok.fresh (Nat.le_refl s.heap.objs.size)
  have I1 := I.laid (a := s.heap.objs.size) (o := .dT []) (h' := s.heap.push { cls := .type "dict", data := .dict #[] }) (t' := s.toks) (fun _ _ q => Heap.get?_push_of_some _ q) (Nat.le_refl _) (dt_empty s.heap I.big)
  have hl := pairTrees_length [some k] [v] X.env pos rfl rfl
  rw [arm_eval_Dict, zip_pairTrees [some k] [v] X.env pos rfl rfl, dictDisplay_pairs _ (fun e => by rw [e] at hl; cases hl) (by rw [hl]; show 1 < 17; decide)]
  refine wpAny_bind (wpAny_standAt (wpAny_bind ?_))
  unfold subDict
  refine wpAny_bind (wpAny_alloc ?_)
  refine wpAny_bind (wpAny_holding ?_)
  rw [if_pos (by rw [hl]; show 1 ≤ 15; decide)]
  have run := (pps_cons (pos := pos) hk hv pps_nil).run pins _ σ _ (QT1 s.heap.objs.size Q) I1 (q _ hn)
  refine wpAny_bind (thn run fun vs s1 ⟨ps, H2, I2, rel, q2⟩ => ?_)
  cases rel with
  | nil => exact q2.elim
  | @cons pv qv as bs r rr =>
    cases rr with
    | cons _ _ => exact q2.elim
    | nil =>
      rcases pv with ⟨x, y⟩
      rcases qv with ⟨key, val⟩
      obtain ⟨kk, b, ex, hb, hp, q2⟩ := q2
      obtain ⟨r1, r2⟩ := r
      have ex : x = V.ref b := ex
      subst ex
      obtain rfl : key = Value.ref b := r1
      refine wpAny_holding ?_
      obtain ⟨z, hd, xs, rel, dd⟩ := dt_of I2.hok hp
      cases rel
      refine wpAny_bind ?_
      rw [List.forIn_cons]
      refine wpAny_bind (wpAny_bind (wpAny_dictSet_heap (hsz := Nat.zero_le _) (knd := tupleKind (mixKind X.prog X.w)) hu (key_of I2.hok hb) dd fun h' dd' hs => wpAny_pure ?_))
      dsimp only
      rw [List.forIn_nil]
      refine wpAny_pure (wpAny_pure (wpAny_pure (wpAny_pure ⟨.ref s.heap.objs.size, _, ?_, rfl, q2⟩)))
      obtain ⟨qo, es, ep, hq, h2, h3, h4, _, h5⟩ := dd'
      refine d_write I2 (by rw [hp]; exact True.intro) hs ⟨qo, hq⟩ ⟨by rw [sizeLine_eq]; show 1 ≤ 16777216; decide, hd, _, (KT.put (kvs := []) (xs := []) .nil kk hb r2).keeps fun c ys ec => ?_, qo, es, ep, hq, h2, h3, h4, h5⟩
      rw [upd_ne (ne_of ec hp (fun z => nomatch z))]
      exact ec
/-- a if c else b, as a test -/
def tIfT (tc ta tb : TT) : TT := fun σ H Q => tc σ H fun d H1 => if d = true then ta σ H1 Q else tb σ H1 Q
theorem pt_ifExp {X : Cx} {c a b : Expr} {pos : Pos} {tc ta tb : TT} (hc : PT X c tc) (ha : PT X a ta) (hb : PT X b tb) : PT X (.IfExp c a b pos) (tIfT tc ta tb) := by
  refine ⟨fun pins s σ H Q I h => ?_⟩
  refine isTrue_IfExp (thn (hc.run pins s σ H _ I h) fun d s1 ⟨H1, I1, q1⟩ => ?_)
  cases d with
  | true =>
    rw [if_pos rfl] at q1 ⊢
    exact ha.run pins s1 σ H1 Q I1 q1
  | false =>
    rw [if_neg Bool.false_ne_true] at q1 ⊢
    exact hb.run pins s1 σ H1 Q I1 q1
end Ns

/-! Own layer: arrows that force one another, walked. -/
namespace Ns
open PySem PySem.Spec PyProof.Rows L2
local macro_rules | `(tactic| walk_at "look") => `(tactic| first | assumption | exact upd_same | (refine (upd_ne (by first | assumption | exact Ne.symm (by assumption))).trans ?_; walk_at "look"))
local macro_rules | `(tactic| walk_at "cond") => `(tactic| first | assumption | omega | (dsimp only; omega) | exact ⟨by omega, by omega⟩ | decide | exact ⟨by decide, by decide, by decide⟩ | exact .inr ⟨by decide, by decide⟩ | exact .inl ⟨by decide, by decide⟩ | exact .inr ⟨by omega, by omega⟩ | exact .inl ⟨by omega, by omega⟩)
local macro_rules | `(tactic| walk_at "rd1") => `(tactic| first
  | refine ⟨_, rfl, ?_⟩
  | refine ⟨_, _, rfl, rfl, ?_⟩
  | refine ⟨rfl, ?_⟩
  | refine ⟨_, _, rfl, rfl, (by walk_at "cond"), ?_⟩
  | refine ⟨_, _, _, _, rfl, rfl, SqL.of (by walk_at "look"), rfl, ?_⟩
  | refine ⟨_, _, _, _, rfl, rfl, SqT.of (by walk_at "look"), rfl, ?_⟩
  | refine ⟨_, _, _, _, rfl, rfl, (by walk_at "look"), rfl, ?_⟩
  | refine .inl ⟨_, rfl, ?_⟩
  | refine ⟨.inl ⟨rfl, _, SqL.of (by walk_at "look")⟩, ?_⟩
  | refine ⟨_, _, rfl, ⟨by omega, by omega, by omega, by omega⟩, ?_⟩
  | refine ⟨_, rfl, (by omega), (by omega), ?_⟩
  | refine And.intro (by walk_at "cond") ?_)
local macro_rules | `(tactic| walk_at "rd") => `(tactic| repeat (walk_at "rd1"))

abbrev N_neighbours_arrows : List Str := ["net", "rows", "a", "b", "_"]
theorem sc_neighbours_arrows : FnScope N_neighbours_arrows ["net"] (defScope s_neighbours_arrows) := ⟨rfl, rfl, rfl, by decide +kernel, rfl, by decide +kernel, by decide +kernel⟩
abbrev N_forced : List Str := ["near", "arrow", "a", "b", "out", "c"]
theorem sc_forced : FnScope N_forced ["near", "arrow"] (defScope s_forced) := ⟨rfl, rfl, rfl, by decide +kernel, rfl, by decide +kernel, by decide +kernel⟩
/-- a list of dicts whose keys are points -/
structure DN (H : Hp) (m : Addr) (rows : List Addr) (n : Nat) (Ls : Nat → List Nat) : Prop where
  top : H m = some (.lst (rows.map V.ref))
  len : rows.length = n
  nd : rows.Nodup
  at_ : ∀ i a, rows[i]? = some a → H a = some (.dK (ldK (Ls i)))
theorem DN.same {H H' : Hp} {m : Addr} {rows : List Addr} {n : Nat} {Ls : Nat → List Nat} (x : DN H m rows n Ls) (s : Same H H') : DN H' m rows n Ls :=
  ⟨s _ _ x.top, x.len, x.nd, fun i a h => s _ _ (x.at_ i a h)⟩
theorem DN.row {H : Hp} {m : Addr} {rows : List Addr} {n : Nat} {Ls : Nat → List Nat} (x : DN H m rows n Ls) {i : Nat} (h : i < n) : ∃ a, rows[i]? = some a ∧ H a = some (.dK (ldK (Ls i))) := by
  have hi : i < rows.length := by rw [x.len]; exact h
  exact ⟨rows[i], List.getElem?_eq_getElem hi, x.at_ i _ (List.getElem?_eq_getElem hi)⟩
theorem DN.off {H : Hp} {m : Addr} {rows : List Addr} {n : Nat} {Ls : Nat → List Nat} (x : DN H m rows n Ls) : m ∉ rows := fun h => by
  obtain ⟨i, hi⟩ := List.getElem?_of_mem h
  have := x.at_ i m hi
  rw [x.top] at this
  cases this
theorem DN.put {H : Hp} {m a : Addr} {rows : List Addr} {n i : Nat} {Ls : Nat → List Nat} (x : DN H m rows n Ls) (h : rows[i]? = some a) (L : List Nat) : DN (upd H a (.dK (ldK L))) m rows n (fun j => if j = i then L else Ls j) ∧ Out rows H (upd H a (.dK (ldK L))) := by
  have ham := List.mem_of_getElem? h
  refine ⟨⟨?_, x.len, x.nd, fun j b hb => ?_⟩, fun b o hb hn => ?_⟩
  · rw [upd_ne (fun e => x.off (by rw [e]; exact ham))]
    exact x.top
  · by_cases e : j = i
    · subst e
      have : a = b := Option.some.inj (h.symm.trans hb)
      subst this
      rw [upd_same, if_pos rfl]
    · have hne : b ≠ a := fun e2 => by
        subst e2
        exact e ((List.getElem?_inj (List.getElem?_eq_some_iff.mp hb).1 x.nd).mp (hb.trans h.symm))
      rw [upd_ne hne, if_neg e]
      exact x.at_ j b hb
  · rw [upd_ne (fun e => hn (by rw [e]; exact ham))]
    exact hb
/-- what a lock behind which nothing old changes leaves -/
theorem lock_back {H H5 : Hp} {d : Addr} {o : Obj} {kk : List (Key × V)} (hd : H d = some (.dK kk)) (s : Same (upd H d (.frz o (.dK kk))) H5) : Same H (upd H5 d (.dK kk)) := fun a u hu => by
  by_cases e : a = d
  · subst e
    rw [upd_same, ← hd]
    exact hu
  · rw [upd_ne e]
    exact s _ _ (by rw [upd_ne e]; exact hu)
/-- rows that tell a net's ties -/
structure Tells (n : Nat) (Ls : Nat → List Nat) (E : Ar) : Prop where
  mem : ∀ x y, x < n → (y ∈ Ls x ↔ E x y)
  nd : ∀ x, x < n → (Ls x).Nodup
  lt : ∀ x y, E x y → x < n ∧ y < n
theorem Tells.len {n : Nat} {Ls : Nat → List Nat} {E : Ar} (t : Tells n Ls E) {x : Nat} (h : x < n) : (Ls x).length ≤ n := by
  have := sub_len (Ls x) (List.range n) (t.nd x h) fun y hy => List.mem_range.mpr (t.lt x y ((t.mem x y h).mp hy)).2
  rwa [List.length_range] at this
section
variable {P : Program} {w : World} {K : PySem.W.Frag} {mg : Str → Option Value} {base : Heap}
def tieE (ties : List (Nat × Nat)) : Ar := fun x y => tieT ties x y = true
theorem tieE_und {n : Nat} {ties : List (Nat × Nat)} (hg : Good n ties) : Und (tieE ties) := ⟨fun {x y} h => by
    have h : tieT ties x y = true := h
    rw [tieT_sym] at h
    exact h, fun {x} h => by
    have h : tieT ties x x = true := h
    rw [tieT_irr hg] at h
    cases h⟩
theorem tieE_lt {n : Nat} {ties : List (Nat × Nat)} (hg : Good n ties) {x y : Nat} (h : tieE ties x y) : x < n ∧ y < n := by
  have h : (x, y) ∈ ties ∨ (y, x) ∈ ties := of_decide_eq_true h
  rcases h with h | h
  · have := hg.1 _ h
    dsimp only at this
    omega
  · have := hg.1 _ h
    dsimp only at this
    omega
def sp_nearA : Sp := fun vs H Q _ => ∃ (v : V) (n : Nat) (ties : List (Nat × Nat)), vs = [v] ∧ Net H v n ties ∧ n ≤ 40 ∧ Good n ties ∧ ∀ (m : Addr) (rows : List Addr) (Ls : Nat → List Nat) (H' : Hp), Same H H' → H m = none → (∀ a ∈ rows, H a = none) → DN H' m rows n Ls → Tells n Ls (tieE ties) → Q (.ref m) H'
theorem cal_nearA (A : AtN K mg "neighbours_arrows" "neighbours" s_neighbours_arrows) (B : Bi mg) : Cal P w K mg base 1 "neighbours_arrows" sp_nearA := by
  have nd := sc_neighbours_arrows.nd
  refine A.cal sc_neighbours_arrows (fun _ _ _ _ _ _ us hl => match us, hl with | [_], _ => rfl) ?_ fun f cdv A' outer s H vs Q E hr h => ⟨_, (pss_cons (ps_setLc (i := 1) (own := [("_", 4)]) rfl nd rfl rfl (sw_true rfl rfl rfl (by decide +kernel)) (pi_range1 (by rfl) B.range (pa_cons (pe_ix (ix_tupK (K := K) rfl) (pv 0) pe_int (fun _ _ => rfl)) pa_nil)) (blkOk_by (own := [("_", 4)]) (N := N_neighbours_arrows) (sc := defScope s_neighbours_arrows) (by decide +kernel)) (fun _ _ _ _ _ => (pg_name (i := 4) nd rfl (.inl rfl) (.inr rfl))) (fun _ _ _ _ _ => pts_nil) (fun _ _ _ _ _ => pe_dnewK))
  (pss_cons (ps_for passOwn rfl (pi_tupK (K := K) rfl (pe_ix (ix_tupK (K := K) rfl) (pv 0) pe_int (fun _ _ => rfl))) (pg_tupK (K := K) (n := 2) rfl rfl (pgs_cons (pg_name (i := 2) nd rfl (.inl rfl)) (pgs_cons (pg_name (i := 3) nd rfl (.inl rfl)) pgs_nil))) (pss_cons (ps_dput (hu_of hr) (pe_ix (ix_listK (K := K) rfl) (pv 1) (pv 2) (fun _ _ => rfl)) (pv 3) pe_bl rfl)
  (pss_one (ps_dput (hu_of hr) (pe_ix (ix_listK (K := K) rfl) (pv 1) (pv 3) (fun _ _ => rfl)) (pv 2) pe_bl rfl))))
  (pss_one (ps_ret (pv 1))))), ?_⟩
  · rintro vs H Q E ⟨v, n, ties, rfl, _⟩
    rfl
  · obtain ⟨v, n, ties, rfl, hN, hn, hg, q⟩ := h
    obtain ⟨t, u, rfl, h, t2, us, rfl, h2, pr⟩ := hN
    have h : H t = some (.tup [pI n, .ref t2]) := h
    refine ⟨_, rfl, _, _, _, _, rfl, rfl, SqT.of h, rfl, _, rfl, by omega, by omega, fun D hD => ?_⟩
    have key : ∀ {H4 : Hp} {i : Nat} {rs : List Addr} {a : Addr}, H4 D = some (.lst (rs.map V.ref)) → rs.length = i → (∀ a ∈ rs, H4 a = some (.dK []) ∧ H a = none) → rs.Nodup → Same H H4 → H4 a = none →
        (upd (upd H4 a (.dK [])) D (.lst (rs.map V.ref ++ [.ref a]))) D = some (.lst ((rs ++ [a]).map V.ref)) ∧ (∀ b ∈ rs ++ [a], (upd (upd H4 a (.dK [])) D (.lst (rs.map V.ref ++ [.ref a]))) b = some (.dK []) ∧ H b = none) ∧ (rs ++ [a]).Nodup := fun {H4 i rs a} hd hl hr2 hnd s4 ha => by
      have haD : a ≠ D := fun e => by rw [e, hd] at ha; cases ha
      have hrD : ∀ b ∈ rs, b ≠ D := fun b hb e => by have := (hr2 b hb).1; rw [e, hd] at this; cases this
      refine ⟨by rw [upd_same, List.map_append]; rfl, fun b hb => ?_, List.nodup_append.mpr ⟨hnd, by simp, fun x hx y hy e => ?_⟩⟩
      · rcases List.mem_append.mp hb with hb | hb
        · rw [upd_ne (hrD b hb), upd_ne (fun e => by have := (hr2 b hb).1; rw [e, ha] at this; cases this)]
          exact hr2 b hb
        · rw [List.mem_singleton.mp hb, upd_ne haD, upd_same]
          exact ⟨rfl, gone s4 ha⟩
      · rw [List.mem_singleton.mp hy] at e
        have := (hr2 x hx).1
        rw [e, ha] at this
        cases this
    refine lc_range (lo := 0) (n := (n : Int).toNat) (fun i H4 => Same H H4 ∧ ∃ rs : List Addr, H4 D = some (.lst (rs.map V.ref)) ∧ rs.length = i ∧ (∀ a ∈ rs, H4 a = some (.dK []) ∧ H a = none) ∧ rs.Nodup) ⟨same_laid hD, [], upd_same, rfl, (fun a h => nomatch h), List.nodup_nil⟩ ?_ ?_
    · rintro i H4 hi ⟨s4, rs, hd, hl, hr2, hnd⟩
      refine ⟨rfl, fun a ha => ?_⟩
      have haD : a ≠ D := fun e => by rw [e, hd] at ha; cases ha
      obtain ⟨k1, k2, k3⟩ := key hd hl hr2 hnd s4 ha
      exact ⟨rs.map V.ref, by rw [upd_ne haD.symm]; exact hd, by rw [List.length_map]; exact sizeBig (by omega), sPut (sNew s4 ha) hD, rs ++ [a], k1, by rw [List.length_append, hl]; rfl, k2, k3⟩
    · rintro H4 ⟨s4, rs, hd, hl, hr2, hnd⟩
      have D0 : DN H4 D rs n (fun _ => []) := ⟨hd, by omega, hnd, fun i a hia => (hr2 a (List.mem_of_getElem? hia)).1⟩
      have hnew : ∀ a ∈ rs, H a = none := fun a ha => (hr2 a ha).2
      refine ⟨_, rfl, _, _, _, _, rfl, rfl, SqT.of (s4 _ _ h), rfl, t2, rfl, ⟨_, SqT.of (s4 _ _ h2)⟩, ?_⟩
      refine for_tup (K := K) (a := t2) (xs := us) (fun i σ H5 => ∃ v2 v3 Ls, σ = [some (.ref t), some (.ref D), v2, v3, none] ∧ Same H H5 ∧ DN H5 D rs n Ls ∧ Tells n Ls (tieE (ties.take i))) ⟨none, none, _, rfl, s4, D0, ⟨fun x y _ => ?_, fun _ _ => List.nodup_nil, fun x y e => ?_⟩⟩ (fun i σ H5 _ ⟨_, _, _, _, s5, _⟩ => SqT.of (s5 _ _ h2)) ?_ ?_
      · exact ⟨(fun h => nomatch h), fun h => by have h : (x, y) ∈ [] ∨ (y, x) ∈ [] := of_decide_eq_true h; rcases h with h | h <;> cases h⟩
      · have e : (x, y) ∈ [] ∨ (y, x) ∈ [] := of_decide_eq_true e
        rcases e with h | h <;> cases h
      · rintro i x σ H5 hx ⟨v2, v3, Ls, rfl, s5, D5, T5⟩
        obtain ⟨p, hp, tp, rfl, htp⟩ := pAtL pr hx
        have hb := hg.1 p (List.mem_of_getElem? hp)
        have hnm : p ∉ ties.take i := fun hm => by
          obtain ⟨j, hj⟩ := List.getElem?_of_mem hm
          rw [List.getElem?_take] at hj
          split at hj
          · rename_i hji
            have ndt : ties.Nodup := hg.2.imp fun {a b} h e => by subst e; unfold ltP at h; omega
            have := (List.getElem?_inj (List.getElem?_eq_some_iff.mp hj).1 ndt).mp (hj.trans hp.symm)
            omega
          · cases hj
        have hsub : ∀ q ∈ ties.take i, q.1 < q.2 := fun q hq => (hg.1 q (List.mem_of_mem_take hq)).1
        have n12 : p.2 ∉ Ls p.1 := fun hm => by
          have : (p.1, p.2) ∈ ties.take i ∨ (p.2, p.1) ∈ ties.take i := of_decide_eq_true ((T5.mem _ _ (by omega)).mp hm)
          rcases this with h | h
          · exact hnm h
          · have := hsub _ h; dsimp only at this; omega
        have n21 : p.1 ∉ Ls p.2 := fun hm => by
          have : (p.2, p.1) ∈ ties.take i ∨ (p.1, p.2) ∈ ties.take i := of_decide_eq_true ((T5.mem _ _ hb.2).mp hm)
          rcases this with h | h
          · have := hsub _ h; dsimp only at this; omega
          · exact hnm h
        refine ⟨tp, _, rfl, SqT.of (s5 _ _ htp), rfl, _, _, rfl, _, _, rfl, rfl, ?_⟩
        obtain ⟨a1, ha1, hr1⟩ := D5.row (i := p.1) (by omega)
        have l1 := T5.len (x := p.1) (by omega)
        obtain ⟨D6, o6⟩ := D5.put ha1 (Ls p.1 ++ [p.2])
        refine ⟨_, rfl, _, rfl, _, _, _, .ref a1, rfl, rfl, SqL.of D5.top, atI_nat (j := p.1) (by rw [List.getElem?_map, ha1]; rfl), _, rfl, a1, _, rfl, DPut.k (k := .inl (p.2 : Int)) hr1 (by rw [ldK_len]; exact sizeBig (by omega)), ?_⟩
        rw [ldK_put n12]
        obtain ⟨a2, ha2, hr2⟩ := D6.row (i := p.2) hb.2
        rw [if_neg (show ¬ p.2 = p.1 by omega)] at hr2
        have l2 := T5.len (x := p.2) hb.2
        obtain ⟨D7, o7⟩ := D6.put ha2 (Ls p.2 ++ [p.1])
        refine ⟨_, rfl, _, rfl, _, _, _, .ref a2, rfl, rfl, SqL.of D6.top, atI_nat (j := p.2) (by rw [List.getElem?_map, ha2]; rfl), _, rfl, a2, _, rfl, DPut.k (k := .inl (p.1 : Int)) hr2 (by rw [ldK_len]; exact sizeBig (by omega)), ?_⟩
        rw [ldK_put n21]
        refine ⟨_, _, _, rfl, Out.same s5 hnew (o6.trans o7), D7, ⟨fun x y hxn => ?_, fun x hxn => ?_, fun x y e => ?_⟩⟩
        · have et : tieE (ties.take (i + 1)) x y ↔ tieE (ties.take i) x y ∨ (x = p.1 ∧ y = p.2) ∨ (x = p.2 ∧ y = p.1) := by
            have e1 : ties.take (i + 1) = ties.take i ++ [p] := by rw [List.take_add_one, hp]; rfl
            rw [e1]
            show decide _ = true ↔ decide _ = true ∨ _
            rw [decide_eq_true_eq, decide_eq_true_eq, List.mem_append, List.mem_append, List.mem_singleton, List.mem_singleton, Prod.ext_iff, Prod.ext_iff]
            dsimp only
            constructor
            · rintro ((h | h) | (h | h))
              · exact .inl (.inl h)
              · exact .inr (.inl h)
              · exact .inl (.inr h)
              · exact .inr (.inr ⟨h.2, h.1⟩)
            · rintro ((h | h) | (h | h))
              · exact .inl (.inl h)
              · exact .inr (.inl h)
              · exact .inl (.inr h)
              · exact .inr (.inr ⟨h.2, h.1⟩)
          rw [et, ← T5.mem x y hxn]
          by_cases e2 : x = p.2
          · rw [if_pos e2, List.mem_append, List.mem_singleton, ← e2]
            constructor
            · rintro (h | h)
              · exact .inl h
              · exact .inr (.inr ⟨rfl, h⟩)
            · rintro (h | ⟨h, _⟩ | ⟨_, h⟩)
              · exact .inl h
              · omega
              · exact .inr h
          · rw [if_neg e2]
            by_cases e1 : x = p.1
            · rw [if_pos e1, List.mem_append, List.mem_singleton, ← e1]
              constructor
              · rintro (h | h)
                · exact .inl h
                · exact .inr (.inl ⟨rfl, h⟩)
              · rintro (h | ⟨_, h⟩ | ⟨h, _⟩)
                · exact .inl h
                · exact .inr h
                · exact absurd h e2
            · rw [if_neg e1]
              exact ⟨.inl, fun h => h.elim id fun h => h.elim (fun h => absurd h.1 e1) fun h => absurd h.1 e2⟩
        · by_cases e2 : x = p.2
          · rw [if_pos e2]
            exact List.nodup_append.mpr ⟨T5.nd _ hb.2, by simp, fun a ha b hb e => n21 (by rw [← List.mem_singleton.mp hb, ← e]; exact ha)⟩
          · rw [if_neg e2]
            by_cases e1 : x = p.1
            · rw [if_pos e1]
              exact List.nodup_append.mpr ⟨T5.nd _ (by omega), by simp, fun a ha b hb e => n12 (by rw [← List.mem_singleton.mp hb, ← e]; exact ha)⟩
            · rw [if_neg e1]
              exact T5.nd x hxn
        · exact tieE_lt (n := n) ⟨fun q hq => hg.1 q (List.mem_of_mem_take hq), hg.2.sublist (List.take_sublist _ _)⟩ e
      · rintro σ H5 ⟨v2, v3, Ls, rfl, s5, D5, T5⟩
        rw [pr.length, List.take_length] at T5
        exact ⟨_, rfl, q D rs Ls H5 s5 hD hnew D5 T5⟩
def sp_forced : Sp := fun vs H Q _ => ∃ (m : Addr) (rows : List Addr) (n : Nat) (Ls : Nat → List Nat) (E : Ar) (v : V) (a b : Nat), vs = [.ref m, v] ∧ DN H m rows n Ls ∧ Tells n Ls E ∧ Und E ∧ n ≤ 40 ∧ Pr H v (a, b) ∧ E a b ∧
  ∀ (p : Addr) (us : List V) (ps : List (Nat × Nat)) (H' : Hp), Same H H' → H p = none → H' p = some (.lst us) → Paired (Pr H') us ps → (∀ q, q ∈ ps ↔ Frc E a b q.1 q.2) → ps.length ≤ 80 → Q (.ref p) H'
theorem cal_forced (A : At K mg "forced" s_forced) (B : Bi mg) : Cal P w K mg base 1 "forced" sp_forced := by
  have nd := sc_forced.nd
  refine A.cal sc_forced (fun _ _ _ _ _ _ us hl => match us, hl with | [_, _], _ => rfl) ?_ fun f cdv A' outer s H vs Q E0 hr h => ⟨_, (pss_cons (ps_asg (pv 1) (pg_tupK (K := K) (n := 2) rfl rfl (pgs_cons (pg_name (i := 2) nd rfl (.inl rfl)) (pgs_cons (pg_name (i := 3) nd rfl (.inl rfl)) pgs_nil))))
  (pss_cons (ps_set (i := 4) nd rfl (.inl rfl) (pe_lst pa_nil))
  (pss_cons (ps_lock (ps_for passOwn rfl (pi_keys (pe_ix (ix_listK (K := K) rfl) (pv 0) (pv 2) (fun _ _ => rfl))) (pg_name (i := 5) nd rfl (.inl rfl)) (pss_one (ps_if (PW.pt (pw_and (pt_cmpR op_ne (pv 5) (pv 3) (nomark _)) (pw_and1 (pt_cmp (pc_dnotin (hu_of hr) (pv 5) (pe_ix (ix_listK (K := K) rfl) (pv 0) (pv 3) (fun _ _ => rfl))) rfl)))) (pss_one (ps_expr (pe_bm PySem.F.plainAttrs_list PySem.F.slot_list_append PySem.F.type_list_append mt_append (pv 4) (pa_cons (pe_tup (pa_cons (pv 2) (pa_cons (pv 5) pa_nil))) pa_nil)))) pss_nil))))
  (pss_cons (ps_lock (ps_for passOwn rfl (pi_keys (pe_ix (ix_listK (K := K) rfl) (pv 0) (pv 3) (fun _ _ => rfl))) (pg_name (i := 5) nd rfl (.inl rfl)) (pss_one (ps_if (PW.pt (pw_and (pt_cmpR op_ne (pv 5) (pv 2) (nomark _)) (pw_and1 (pt_cmp (pc_dnotin (hu_of hr) (pv 5) (pe_ix (ix_listK (K := K) rfl) (pv 0) (pv 2) (fun _ _ => rfl))) rfl)))) (pss_one (ps_expr (pe_bm PySem.F.plainAttrs_list PySem.F.slot_list_append PySem.F.type_list_append mt_append (pv 4) (pa_cons (pe_tup (pa_cons (pv 5) (pa_cons (pv 3) pa_nil))) pa_nil)))) pss_nil))))
  (pss_one (ps_ret (pv 4))))))), ?_⟩
  · rintro vs H Q E ⟨m, rows, n, Ls, E, v, a, b, rfl, _⟩
    rfl
  · obtain ⟨m, rows, n, Ls, E, v, a, b, rfl, D, T, U, hn, ⟨t, rfl, ht⟩, hab, q⟩ := h
    obtain ⟨ha, hb⟩ := T.lt a b hab
    refine ⟨_, rfl, t, _, rfl, SqT.of ht, rfl, _, _, rfl, _, _, rfl, rfl, ?_⟩
    refine ⟨Nat.zero_le _, fun po hpo => ?_⟩
    obtain ⟨da, hda, hra⟩ := D.row ha
    obtain ⟨db, hdb, hrb⟩ := D.row hb
    have hne : a ≠ b := fun e => U.ir (e ▸ hab)
    have dab : da ≠ db := fun e => hne ((List.getElem?_inj (List.getElem?_eq_some_iff.mp hda).1 D.nd).mp (hda.trans (by rw [e]; exact hdb.symm)))
    have pda : po ≠ da := fun e => by rw [e, hra] at hpo; cases hpo
    have pdb : po ≠ db := fun e => by rw [e, hrb] at hpo; cases hpo
    have mda : m ≠ da := fun e => D.off (by rw [e]; exact List.mem_of_getElem? hda)
    have mdb : m ≠ db := fun e => D.off (by rw [e]; exact List.mem_of_getElem? hdb)
    have la := T.len ha
    have lb := T.len hb
    have onto : ∀ {H6 : Hp} {d : Addr} {o : HO}, Same H H6 → Same (upd H d o) (upd H6 d o) := fun {H6 d o} s x u hu => by
      by_cases e : x = d
      · subst e
        rw [upd_same] at hu ⊢
        exact hu
      · rw [upd_ne e] at hu ⊢
        exact s _ _ hu
    have app : ∀ {H5 : Hp} {us : List V} {ps : List (Nat × Nat)} {x y : Nat} {t3 : Addr} {Hb : Hp}, Same Hb H5 → Hb po = none → H5 po = some (.lst us) → Paired (Pr H5) us ps → H5 t3 = none →
        Same Hb (upd (upd H5 t3 (.tup [pI x, pI y])) po (.lst (us ++ [.ref t3]))) ∧ (upd (upd H5 t3 (.tup [pI x, pI y])) po (.lst (us ++ [.ref t3]))) po = some (.lst (us ++ [.ref t3])) ∧ Paired (Pr (upd (upd H5 t3 (.tup [pI x, pI y])) po (.lst (us ++ [.ref t3])))) (us ++ [.ref t3]) (ps ++ [(x, y)]) := fun {H5 us ps x y t3 Hb} s hp hpo5 pr h3 => by
      have h3p : (upd H5 t3 (.tup [pI x, pI y])) po = some (.lst us) := same_laid h3 _ _ hpo5
      have k : KeepT H5 (upd (upd H5 t3 (.tup [pI x, pI y])) po (.lst (us ++ [.ref t3]))) := (KeepT.new h3).trans (KeepT.lst h3p)
      refine ⟨sPut (sNew s h3) hp, upd_same, pApp (pMono persPr k pr) (.cons ⟨t3, rfl, ?_⟩ .nil)⟩
      rw [upd_ne (fun e => by rw [e, upd_same] at h3p; cases h3p)]
      exact upd_same
    refine ⟨da, _, same_laid hpo _ _ hra, trivial, fun od => ?_⟩
    have sb1 := onto (d := da) (o := .frz od (.dK (ldK (Ls a)))) (same_laid (o := .lst []) hpo)
    have hbp : (upd H da (.frz od (.dK (ldK (Ls a))))) po = none := by rw [upd_ne pda]; exact hpo
    have hbm : (upd H da (.frz od (.dK (ldK (Ls a))))) m = some (.lst (rows.map V.ref)) := by rw [upd_ne mda]; exact D.top
    have hbb : (upd H da (.frz od (.dK (ldK (Ls a))))) db = some (.dK (ldK (Ls b))) := by rw [upd_ne dab.symm]; exact hrb
    refine ⟨_, rfl, _, rfl, _, _, _, .ref da, rfl, rfl, SqL.of (sb1 _ _ hbm), atI_nat (j := a) (by rw [List.getElem?_map, hda]; rfl), da, od, rfl, .inl ⟨_, upd_same, ?_⟩⟩
    refine for_it walk_keys (fun k σ H5 => ∃ v5 us ps, σ = [some (.ref m), some (.ref t), some (pI a), some (pI b), some (.ref po), v5] ∧ Same (upd H da (.frz od (.dK (ldK (Ls a))))) H5 ∧ H5 po = some (.lst us) ∧ Paired (Pr H5) us ps ∧ (∀ q, q ∈ ps ↔ ∃ c ∈ (Ls a).take k, c ≠ b ∧ ¬ E b c ∧ q = (a, c)) ∧ ps.length ≤ k) ⟨none, [], [], rfl, sb1, by rw [upd_ne pda]; exact upd_same, .nil, fun q => by simp, Nat.le_refl _⟩ (fun k σ H5 _ ⟨_, _, _, _, s5, _⟩ => s5 _ _ upd_same) ?_ ?_
    · rintro k x σ H5o H5 hk ⟨v5, us, ps, rfl, s5, hpo5, pr5, st, lps⟩ ⟨rfl, ky, vv, hkv, rfl⟩
      unfold ldK at hkv
      rw [List.getElem?_map] at hkv
      obtain ⟨c, hc, ee⟩ := Option.map_eq_some_iff.mp hkv
      obtain ⟨rfl, rfl⟩ := Prod.mk.inj ee
      rw [ldK_len] at hk
      have etk : (Ls a).take (k + 1) = (Ls a).take k ++ [c] := by rw [List.take_add_one, hc]; rfl
      have skip : (c = b ∨ E b c) → ∃ v5 us ps, [some (V.ref m), some (.ref t), some (pI a), some (pI b), some (.ref po), some (pI c)] = [some (V.ref m), some (.ref t), some (pI a), some (pI b), some (.ref po), v5] ∧ Same (upd H da (.frz od (.dK (ldK (Ls a))))) H5 ∧ H5 po = some (.lst us) ∧ Paired (Pr H5) us ps ∧ (∀ q, q ∈ ps ↔ ∃ c ∈ (Ls a).take (k + 1), c ≠ b ∧ ¬ E b c ∧ q = (a, c)) ∧ ps.length ≤ k + 1 := fun hs => by
        refine ⟨_, us, ps, rfl, s5, hpo5, pr5, fun q => ?_, by omega⟩
        rw [st, etk]
        constructor
        · rintro ⟨c', h1, h2⟩
          exact ⟨c', List.mem_append_left _ h1, h2⟩
        · rintro ⟨c', h1, h2, h3, h4⟩
          rcases List.mem_append.mp h1 with h1 | h1
          · exact ⟨c', h1, h2, h3, h4⟩
          · rw [List.mem_singleton.mp h1] at h2 h3
            exact absurd hs (not_or.mpr ⟨h2, h3⟩)
      refine ⟨_, rfl, _, rfl, rfl, _, rfl, ifNI (fun c1 => ?_) (fun c1 => ?_)⟩
      · have c1 : c ≠ b := fun e => c1 (by rw [e])
        refine ⟨_, rfl, _, rfl, _, rfl, _, _, _, .ref db, rfl, rfl, SqL.of (s5 _ _ hbm), atI_nat (j := b) (by rw [List.getElem?_map, hdb]; rfl), db, _, rfl, .inl ⟨_, .inl (c : Int), .inl (s5 _ _ hbb), rfl, rfl⟩, _, rfl, ?_⟩
        rw [ldK_has]
        refine ifN (fun c2 => ?_) (fun c2 => ?_)
        · have c2 : ¬ E b c := fun h => of_decide_eq_false c2 ((T.mem b c hb).mpr h)
          refine ⟨_, rfl, .inl ⟨rfl, _, SqL.of hpo5⟩, _, rfl, _, rfl, by show 2 ≤ sizeLine; decide, fun t3 h3 => ⟨po, _, _, rfl, rfl, same_laid h3 _ _ hpo5, ?_, ?_⟩⟩
          · have := pr5.length
            exact sizeBig (by omega)
          · obtain ⟨z1, z2, z3⟩ := app (x := a) (y := c) s5 hbp hpo5 pr5 h3
            refine ⟨_, _, _, rfl, z1, z2, z3, fun q => ?_, by rw [List.length_append, List.length_cons, List.length_nil]; omega⟩
            rw [List.mem_append, st, etk, List.mem_singleton]
            constructor
            · rintro (⟨c', h1, h2⟩ | h)
              · exact ⟨c', List.mem_append_left _ h1, h2⟩
              · exact ⟨c, List.mem_append_right _ (List.mem_singleton.mpr rfl), c1, c2, h⟩
            · rintro ⟨c', h1, h2, h3, h4⟩
              rcases List.mem_append.mp h1 with h1 | h1
              · exact .inl ⟨c', h1, h2, h3, h4⟩
              · rw [List.mem_singleton.mp h1] at h4
                exact .inr h4
        · exact skip (.inr ((T.mem b c hb).mp (of_decide_eq_true c2)))
      · exact skip (.inl (by omega))
    · rintro σ H5 ⟨v5, us, ps, rfl, s5, hpo5, pr5, st, lps⟩
      rw [ldK_len] at lps
      rw [ldK_len, List.take_length] at st
      refine ⟨s5 _ _ upd_same, ?_⟩
      have s6 := lock_back hra s5
      have k56 : KeepT H5 (upd H5 da (.dK (ldK (Ls a)))) := fun x ys h => by
        rw [upd_ne (fun e => by rw [e, s5 _ _ upd_same] at h; cases h)]
        exact h
      have hpo6 : (upd H5 da (.dK (ldK (Ls a)))) po = some (.lst us) := by rw [upd_ne pda]; exact hpo5
      have pr6 := pMono persPr k56 pr5
      generalize (upd H5 da (.dK (ldK (Ls a)))) = H6 at s6 hpo6 pr6
      refine ⟨db, _, s6 _ _ hrb, trivial, fun od2 => ?_⟩
      have sb2 := onto (d := db) (o := .frz od2 (.dK (ldK (Ls b)))) s6
      have hbp2 : (upd H db (.frz od2 (.dK (ldK (Ls b))))) po = none := by rw [upd_ne pdb]; exact hpo
      have hbm2 : (upd H db (.frz od2 (.dK (ldK (Ls b))))) m = some (.lst (rows.map V.ref)) := by rw [upd_ne mdb]; exact D.top
      have hba2 : (upd H db (.frz od2 (.dK (ldK (Ls b))))) da = some (.dK (ldK (Ls a))) := by rw [upd_ne dab]; exact hra
      have k67 : KeepT H6 (upd H6 db (.frz od2 (.dK (ldK (Ls b))))) := KeepT.dK (s6 _ _ hrb)
      refine ⟨_, rfl, _, rfl, _, _, _, .ref db, rfl, rfl, SqL.of (sb2 _ _ hbm2), atI_nat (j := b) (by rw [List.getElem?_map, hdb]; rfl), db, od2, rfl, .inl ⟨_, upd_same, ?_⟩⟩
      refine for_it walk_keys (fun k σ H5 => ∃ v5 us qs, σ = [some (.ref m), some (.ref t), some (pI a), some (pI b), some (.ref po), v5] ∧ Same (upd H db (.frz od2 (.dK (ldK (Ls b))))) H5 ∧ H5 po = some (.lst us) ∧ Paired (Pr H5) us qs ∧ (∀ q, q ∈ qs ↔ q ∈ ps ∨ ∃ c ∈ (Ls b).take k, c ≠ a ∧ ¬ E a c ∧ q = (c, b)) ∧ qs.length ≤ 40 + k) ⟨v5, us, ps, rfl, sb2, by rw [upd_ne pdb]; exact hpo6, pMono persPr k67 pr6, fun q => by simp, by omega⟩ (fun k σ H5 _ ⟨_, _, _, _, s5, _⟩ => s5 _ _ upd_same) ?_ ?_
      · rintro k x σ H5o H5 hk ⟨v5, us, qs, rfl, s5, hpo5, pr5, st2, lqs⟩ ⟨rfl, ky, vv, hkv, rfl⟩
        unfold ldK at hkv
        rw [List.getElem?_map] at hkv
        obtain ⟨c, hc, ee⟩ := Option.map_eq_some_iff.mp hkv
        obtain ⟨rfl, rfl⟩ := Prod.mk.inj ee
        rw [ldK_len] at hk
        have etk : (Ls b).take (k + 1) = (Ls b).take k ++ [c] := by rw [List.take_add_one, hc]; rfl
        have skip : (c = a ∨ E a c) → ∃ v5 us qs, [some (V.ref m), some (.ref t), some (pI a), some (pI b), some (.ref po), some (pI c)] = [some (V.ref m), some (.ref t), some (pI a), some (pI b), some (.ref po), v5] ∧ Same (upd H db (.frz od2 (.dK (ldK (Ls b))))) H5 ∧ H5 po = some (.lst us) ∧ Paired (Pr H5) us qs ∧ (∀ q, q ∈ qs ↔ q ∈ ps ∨ ∃ c ∈ (Ls b).take (k + 1), c ≠ a ∧ ¬ E a c ∧ q = (c, b)) ∧ qs.length ≤ 40 + (k + 1) := fun hs => by
          refine ⟨_, us, qs, rfl, s5, hpo5, pr5, fun q => ?_, by omega⟩
          rw [st2, etk]
          constructor
          · rintro (h | ⟨c', h1, h2⟩)
            · exact .inl h
            · exact .inr ⟨c', List.mem_append_left _ h1, h2⟩
          · rintro (h | ⟨c', h1, h2, h3, h4⟩)
            · exact .inl h
            rcases List.mem_append.mp h1 with h1 | h1
            · exact .inr ⟨c', h1, h2, h3, h4⟩
            · rw [List.mem_singleton.mp h1] at h2 h3
              exact absurd hs (not_or.mpr ⟨h2, h3⟩)
        refine ⟨_, rfl, _, rfl, rfl, _, rfl, ifNI (fun c1 => ?_) (fun c1 => ?_)⟩
        · have c1 : c ≠ a := fun e => c1 (by rw [e])
          refine ⟨_, rfl, _, rfl, _, rfl, _, _, _, .ref da, rfl, rfl, SqL.of (s5 _ _ hbm2), atI_nat (j := a) (by rw [List.getElem?_map, hda]; rfl), da, _, rfl, .inl ⟨_, .inl (c : Int), .inl (s5 _ _ hba2), rfl, rfl⟩, _, rfl, ?_⟩
          rw [ldK_has]
          refine ifN (fun c2 => ?_) (fun c2 => ?_)
          · have c2 : ¬ E a c := fun h => of_decide_eq_false c2 ((T.mem a c ha).mpr h)
            refine ⟨_, rfl, .inl ⟨rfl, _, SqL.of hpo5⟩, _, rfl, _, rfl, by show 2 ≤ sizeLine; decide, fun t3 h3 => ⟨po, _, _, rfl, rfl, same_laid h3 _ _ hpo5, ?_, ?_⟩⟩
            · have := pr5.length
              exact sizeBig (by omega)
            · obtain ⟨z1, z2, z3⟩ := app (x := c) (y := b) s5 hbp2 hpo5 pr5 h3
              refine ⟨_, _, _, rfl, z1, z2, z3, fun q => ?_, by rw [List.length_append, List.length_cons, List.length_nil]; omega⟩
              rw [List.mem_append, st2, etk, List.mem_singleton]
              constructor
              · rintro ((h | ⟨c', h1, h2⟩) | h)
                · exact .inl h
                · exact .inr ⟨c', List.mem_append_left _ h1, h2⟩
                · exact .inr ⟨c, List.mem_append_right _ (List.mem_singleton.mpr rfl), c1, c2, h⟩
              · rintro (h | ⟨c', h1, h2, h3, h4⟩)
                · exact .inl (.inl h)
                rcases List.mem_append.mp h1 with h1 | h1
                · exact .inl (.inr ⟨c', h1, h2, h3, h4⟩)
                · rw [List.mem_singleton.mp h1] at h4
                  exact .inr h4
          · exact skip (.inr ((T.mem a c ha).mp (of_decide_eq_true c2)))
        · exact skip (.inl (by omega))
      · rintro σ H7 ⟨v5, us, qs, rfl, s7, hpo7, pr7, st2, lqs⟩
        rw [ldK_len] at lqs
        rw [ldK_len, List.take_length] at st2
        refine ⟨s7 _ _ upd_same, _, rfl, ?_⟩
        have k78 : KeepT H7 (upd H7 db (.dK (ldK (Ls b)))) := fun x ys h => by
          rw [upd_ne (fun e => by rw [e, s7 _ _ upd_same] at h; cases h)]
          exact h
        refine q po us qs _ (lock_back hrb s7) hpo (by rw [upd_ne pdb]; exact hpo7) (pMono persPr k78 pr7) (fun r => ?_) (by omega)
        rw [st2, st]
        obtain ⟨r1, r2⟩ := r
        constructor
        · rintro (⟨c, h1, h2, h3, h4⟩ | ⟨c, h1, h2, h3, h4⟩)
          · obtain ⟨rfl, rfl⟩ := Prod.mk.inj h4
            exact .head hab ((T.mem _ _ ha).mp h1) h3 (fun e => h2 e.symm)
          · obtain ⟨rfl, rfl⟩ := Prod.mk.inj h4
            exact .tail hab (U.sy ((T.mem _ _ hb).mp h1)) h3 (fun e => h2 e.symm)
        · intro h
          cases h with
          | head g1 g2 g3 g4 => exact .inl ⟨r2, (T.mem _ _ ha).mpr g2, fun e => g4 e.symm, g3, rfl⟩
          | tail g1 g2 g3 g4 => exact .inr ⟨r1, (T.mem _ _ hb).mpr (U.sy g2), fun e => g4 e.symm, g3, rfl⟩
end
end Ns

/-! Own layer: all arrows that one forces, walked. -/
namespace Ns
open PySem PySem.Spec PyProof.Rows L2
local macro_rules | `(tactic| walk_at "look") => `(tactic| first | assumption | exact upd_same | (refine (upd_ne (by first | assumption | exact Ne.symm (by assumption))).trans ?_; walk_at "look"))
local macro_rules | `(tactic| walk_at "cond") => `(tactic| first | assumption | omega | (dsimp only; omega) | exact ⟨by omega, by omega⟩ | decide | exact ⟨by decide, by decide, by decide⟩ | exact .inr ⟨by decide, by decide⟩ | exact .inl ⟨by decide, by decide⟩ | exact .inr ⟨by omega, by omega⟩ | exact .inl ⟨by omega, by omega⟩)
local macro_rules | `(tactic| walk_at "rd1") => `(tactic| first
  | refine ⟨_, rfl, ?_⟩
  | refine ⟨_, _, rfl, rfl, ?_⟩
  | refine ⟨rfl, ?_⟩
  | refine ⟨_, _, rfl, rfl, (by walk_at "cond"), ?_⟩
  | refine ⟨_, _, _, _, rfl, rfl, SqL.of (by walk_at "look"), rfl, ?_⟩
  | refine ⟨_, _, _, _, rfl, rfl, SqT.of (by walk_at "look"), rfl, ?_⟩
  | refine ⟨_, _, _, _, rfl, rfl, (by walk_at "look"), rfl, ?_⟩
  | refine .inl ⟨_, rfl, ?_⟩
  | refine ⟨.inl ⟨rfl, _, SqL.of (by walk_at "look")⟩, ?_⟩
  | refine ⟨_, _, rfl, ⟨by omega, by omega, by omega, by omega⟩, ?_⟩
  | refine ⟨_, rfl, (by omega), (by omega), ?_⟩
  | refine And.intro (by walk_at "cond") ?_)
local macro_rules | `(tactic| walk_at "rd") => `(tactic| repeat (walk_at "rd1"))

abbrev N_forced_from : List Str := ["near", "arrow", "came", "line", "at", "one"]
theorem sc_forced_from : FnScope N_forced_from ["near", "arrow"] (defScope s_forced_from) := ⟨rfl, rfl, rfl, by decide +kernel, rfl, by decide +kernel, by decide +kernel⟩
abbrev N_chain : List Str := ["came", "arrow", "row"]
theorem sc_chain : FnScope N_chain ["came", "arrow"] (defScope s_chain) := ⟨rfl, rfl, rfl, by decide +kernel, rfl, by decide +kernel, by decide +kernel⟩
section
variable {P : Program} {w : World} {K : PySem.W.Frag} {mg : Str → Option Value} {base : Heap}
/-- an arrow, and the one that forced it -/
abbrev Ent2 := (Nat × Nat) × Option (Nat × Nat)
def ParV (H : Hp) (v : V) : Option (Nat × Nat) → Prop
  | none => v = .non
  | some q => Pr H v q
def KvE (H : Hp) (kv : List Key × V) (e : Ent2) : Prop := kv.1 = key e.1 ∧ ParV H kv.2 e.2
structure CameW (E : Ar) (a b : Nat) (es : List Ent2) : Prop where
  nd : (es.map (·.1)).Nodup
  st : es[0]? = some ((a, b), none)
  par : ∀ i p q, es[i]? = some (p, q) → (i = 0 ∧ q = none) ∨ ∃ j p', j < i ∧ (es.map (·.1))[j]? = some p' ∧ q = some p' ∧ Frc E p'.1 p'.2 p.1 p.2
  cls : ∀ e ∈ es, Cls E a b e.1.1 e.1.2
theorem kve_mono {H H' : Hp} (k : KeepT H H') : ∀ {kvs : DT} {es : List Ent2}, Paired (KvE H) kvs es → Paired (KvE H') kvs es
  | _, _, .nil => .nil
  | _, _, .cons (b := e) ⟨h1, h2⟩ t => .cons ⟨h1, by
      obtain ⟨p, q⟩ := e
      cases q with
      | none => exact h2
      | some q => exact persPr _ _ _ _ k h2⟩ (kve_mono k t)
theorem kve_has {H : Hp} (r : Nat × Nat) : ∀ {kvs : DT} {es : List Ent2}, Paired (KvE H) kvs es → (valV kvs (key r)).isSome = decide (r ∈ es.map (·.1))
  | _, _, .nil => rfl
  | kv :: kvs, e :: es, .cons ⟨h1, _⟩ t => by
    by_cases c : e.1 = r
    · rw [valV_pos (by rw [h1, c])]
      exact (decide_eq_true (by rw [List.map_cons, c]; exact List.mem_cons_self ..)).symm
    · rw [valV_neg (fun z => c (key_inj (h1.symm.trans z))), kve_has r t]
      refine decide_eq_decide.mpr ?_
      rw [List.map_cons, List.mem_cons]
      exact ⟨.inr, fun z => z.resolve_left fun z => c z.symm⟩
theorem kve_val {H : Hp} : ∀ {kvs : DT} {es : List Ent2}, Paired (KvE H) kvs es → (es.map (·.1)).Nodup → ∀ e ∈ es, ∃ v, valV kvs (key e.1) = some v ∧ ParV H v e.2
  | _, _, .nil, _, e, h => nomatch h
  | kv :: kvs, e0 :: es, .cons ⟨h1, h2⟩ t, nd, e, h => by
    rw [List.map_cons] at nd
    obtain ⟨n1, n2⟩ := List.nodup_cons.mp nd
    rcases List.mem_cons.mp h with rfl | h
    · exact ⟨kv.2, valV_pos h1, h2⟩
    · have hne : e0.1 ≠ e.1 := fun z => n1 (by rw [z]; exact List.mem_map.mpr ⟨e, h, rfl⟩)
      rw [valV_neg (fun z => hne (key_inj (h1.symm.trans z)))]
      exact kve_val t n2 e h
theorem kve_app {H : Hp} : ∀ {kvs kvs2 : DT} {es es2 : List Ent2}, Paired (KvE H) kvs es → Paired (KvE H) kvs2 es2 → Paired (KvE H) (kvs ++ kvs2) (es ++ es2)
  | _, _, _, _, .nil, h => h
  | _, _, _, _, .cons a t, h => .cons a (kve_app t h)
theorem CameW.start {E : Ar} {a b : Nat} (h : E a b) : CameW E a b [((a, b), none)] := by
  refine ⟨by simp, rfl, fun i p q hi => ?_, fun e he => ?_⟩
  · cases i with
    | zero => exact .inl ⟨rfl, (Prod.mk.inj (Option.some.inj hi)).2.symm⟩
    | succ i => cases hi
  · rw [List.mem_singleton.mp he]
    exact .self h
theorem CameW.add {E : Ar} {a b : Nat} {es : List Ent2} (x : CameW E a b es) {j : Nat} {p r : Nat × Nat} (hj : (es.map (·.1))[j]? = some p) (f : Frc E p.1 p.2 r.1 r.2) (hn : r ∉ es.map (·.1)) : CameW E a b (es ++ [(r, some p)]) := by
  have hjl := (List.getElem?_eq_some_iff.mp hj).1
  rw [List.length_map] at hjl
  have pre : ∀ {i : Nat} {e : Nat × Nat}, (es.map (·.1))[i]? = some e → ((es ++ [(r, some p)]).map (·.1))[i]? = some e := fun {i e} h => by
    rw [List.map_append, List.getElem?_append_left (List.getElem?_eq_some_iff.mp h).1]
    exact h
  refine ⟨?_, ?_, fun i p2 q hi => ?_, fun e he => ?_⟩
  · rw [List.map_append]
    exact List.nodup_append.mpr ⟨x.nd, by simp, fun u hu v hv e => hn (by
      have hv : v = r := List.mem_singleton.mp hv
      rw [← hv, ← e]
      exact hu)⟩
  · rw [List.getElem?_append_left (by omega)]
    exact x.st
  · by_cases c : i < es.length
    · rw [List.getElem?_append_left c] at hi
      rcases x.par i p2 q hi with h | ⟨j2, p3, h1, h2, h3, h4⟩
      · exact .inl h
      · exact .inr ⟨j2, p3, h1, pre h2, h3, h4⟩
    · rw [List.getElem?_append_right (by omega)] at hi
      have ei : i - es.length = 0 := by
        have := (List.getElem?_eq_some_iff.mp hi).1
        rw [List.length_cons, List.length_nil] at this
        omega
      rw [ei] at hi
      obtain ⟨rfl, rfl⟩ := Prod.mk.inj (Option.some.inj hi)
      exact .inr ⟨j, p, by omega, pre hj, rfl, f⟩
  · rcases List.mem_append.mp he with he | he
    · exact x.cls e he
    · rw [List.mem_singleton.mp he]
      obtain ⟨e0, he0, e1⟩ := List.mem_map.mp (List.mem_of_getElem? hj)
      have := x.cls e0 he0
      rw [show e0.1 = p from e1] at this
      exact .step this f
theorem CameW.len {E : Ar} {n a b : Nat} {es : List Ent2} (x : CameW E a b es) (lt : ∀ x y, E x y → x < n ∧ y < n) : es.length ≤ n * n := by
  have := sub_len (es.map (·.1)) (square n) x.nd fun p hp => by
    obtain ⟨e, he, rfl⟩ := List.mem_map.mp hp
    exact mem_square (lt _ _ (x.cls e he).arr)
  rw [List.length_map] at this
  exact Nat.le_trans this (square_len n)
def sp_ffrom : Sp := fun vs H Q _ => ∃ (m : Addr) (rows : List Addr) (n : Nat) (Ls : Nat → List Nat) (E : Ar) (v : V) (a b : Nat), vs = [.ref m, v] ∧ DN H m rows n Ls ∧ Tells n Ls E ∧ Und E ∧ n ≤ 40 ∧ Pr H v (a, b) ∧ E a b ∧
  ∀ (d : Addr) (kvs : DT) (es : List Ent2) (H' : Hp), Same H H' → H d = none → H' d = some (.dT kvs) → Paired (KvE H') kvs es → CameW E a b es → (∀ p, p ∈ es.map (·.1) ↔ Cls E a b p.1 p.2) → es.length ≤ 1600 → Q (.ref d) H'
theorem cal_ffrom (A : At K mg "forced_from" s_forced_from) (B : Bi mg) (c_forced : Cal P w K mg base 1 "forced" sp_forced) : Cal P w K mg base 2 "forced_from" sp_ffrom := by
  have nd := sc_forced_from.nd
  refine A.cal sc_forced_from (fun _ _ _ _ _ _ us hl => match us, hl with | [_, _], _ => rfl) ?_ fun f cdv A' outer s H vs Q E0 hr h => ⟨_, (pss_cons (ps_set (i := 2) nd rfl (.inl rfl) (pe_dispT1 hr.units0 (pv 1) pe_non))
  (pss_cons (ps_set (i := 3) nd rfl (.inl rfl) (pe_lst (pa_cons (pv 1) pa_nil)))
  (pss_cons (ps_set (i := 4) nd rfl (.inl rfl) pe_int)
  (pss_cons (ps_while passOwn (pt_cmpR op_lt (pv 4) (pe_callB (call_lenK (K := K) rfl) (by rfl) B.len (by decide +kernel) (pa_cons (pv 3) pa_nil)) (nomark _)) (pss_cons (ps_for passOwn rfl (pi_listK (K := K) rfl (pe_cal c_forced hr (by first | decide | omega) (by rfl) passE (pa_cons (pv 0) (pa_cons (pe_ix (ix_listK (K := K) rfl) (pv 3) (pv 4) (fun _ _ => rfl)) pa_nil)))) (pg_name (i := 5) nd rfl (.inl rfl)) (pss_one (ps_if (pt_cmp (pc_dnotin (hu_of hr) (pv 5) (pv 2)) rfl) (pss_cons (ps_dput (hu_of hr) (pv 2) (pv 5) (pe_ix (ix_listK (K := K) rfl) (pv 3) (pv 4) (fun _ _ => rfl)) rfl)
  (pss_one (ps_expr (pe_bm PySem.F.plainAttrs_list PySem.F.slot_list_append PySem.F.type_list_append mt_append (pv 3) (pa_cons (pv 5) pa_nil))))) pss_nil)))
  (pss_one (ps_set (i := 4) nd rfl (.inl rfl) (pe_op op_add (pv 4) pe_int)))))
  (pss_one (ps_ret (pv 2))))))), ?_⟩
  · rintro vs H Q E ⟨m, rows, n, Ls, E, v, a, b, rfl, _⟩
    rfl
  · obtain ⟨m, rows, n, Ls, E, v, a, b, rfl, D, T, U, hn, ⟨t, rfl, ht⟩, hab, q⟩ := h
    obtain ⟨ha, hb⟩ := T.lt a b hab
    have hnn : n * n ≤ 40 * 40 := Nat.mul_le_mul hn hn
    refine fun d hd => ⟨_, rfl, key (a, b), t, rfl, same_laid hd _ _ ht, upd_same, ?_⟩
    have s1 : Same H (upd (upd H d (.dT [])) d (.dT [(key (a, b), .non)])) := sPut (same_laid hd) hd
    have hd1 : (upd (upd H d (.dT [])) d (.dT [(key (a, b), .non)])) d = some (.dT [(key (a, b), .non)]) := upd_same
    generalize (upd (upd H d (.dT [])) d (.dT [(key (a, b), .non)])) = H1 at s1 hd1
    refine ⟨_, rfl, by show 1 ≤ sizeLine; decide, fun pl hpl => ?_⟩
    have npl : H pl = none := gone s1 hpl
    have hpd : pl ≠ d := fun e => by rw [e, hd1] at hpl; cases hpl
    have s2 := sNew s1 (o := .lst [.ref t]) hpl
    refine ⟨fun mm σ H3 => ∃ (at_ : Nat) (us : List V) (es : List Ent2) (kvs : DT) (v5 : Option V), σ = [some (.ref m), some (.ref t), some (.ref d), some (.ref pl), some (pI at_), v5] ∧ Same H H3 ∧ H3 d = some (.dT kvs) ∧ H3 pl = some (.lst us) ∧ Paired (KvE H3) kvs es ∧ Paired (Pr H3) us (es.map (·.1)) ∧ CameW E a b es ∧
        (∀ j p, j < at_ → (es.map (·.1))[j]? = some p → ∀ r : Nat × Nat, Frc E p.1 p.2 r.1 r.2 → r ∈ es.map (·.1)) ∧ at_ ≤ es.length ∧ mm = n * n + 1 - at_,
      ⟨_, 0, [.ref t], [((a, b), none)], [(key (a, b), .non)], none, rfl, s2, same_laid hpl _ _ hd1, upd_same, .cons ⟨rfl, rfl⟩ .nil, .cons ⟨t, rfl, s2 _ _ ht⟩ .nil, .start hab, fun j p hj => by omega, Nat.zero_le _, rfl⟩, ?_⟩
    rintro mm σ H3 ⟨at_, us, es, kvs, v5, rfl, s3, hd3, hpl3, pk3, pu3, cw, cl, hat, rfl⟩
    have les := cw.len T.lt
    have lus := pu3.length
    rw [List.length_map] at lus
    refine ⟨_, rfl, _, rfl, _, _, rfl, .inl ⟨_, SqL.of hpl3, rfl⟩, _, _, rfl, rfl, _, rfl, ifD (fun c => ?_) (fun c => ?_)⟩
    · have c : at_ < es.length := by omega
      refine ⟨fun σ' H' => ∃ (us : List V) (es : List Ent2) (kvs : DT) (v5 : Option V), σ' = [some (.ref m), some (.ref t), some (.ref d), some (.ref pl), some (pI (at_ + 1)), v5] ∧ Same H H' ∧ H' d = some (.dT kvs) ∧ H' pl = some (.lst us) ∧ Paired (KvE H') kvs es ∧ Paired (Pr H') us (es.map (·.1)) ∧ CameW E a b es ∧
          (∀ j p, j < at_ + 1 → (es.map (·.1))[j]? = some p → ∀ r : Nat × Nat, Frc E p.1 p.2 r.1 r.2 → r ∈ es.map (·.1)) ∧ at_ + 1 ≤ es.length, fun σ' H' ⟨us, es, kvs, v5, e1, e2, e3, e4, e5, e6, e7, e8, e9⟩ => ⟨n * n + 1 - (at_ + 1), by have := e7.len T.lt; omega, at_ + 1, us, es, kvs, v5, e1, e2, e3, e4, e5, e6, e7, e8, e9, rfl⟩, ?_⟩
      obtain ⟨p, hp⟩ : ∃ p, (es.map (·.1))[at_]? = some p := ⟨_, List.getElem?_eq_getElem (by rw [List.length_map]; exact c)⟩
      obtain ⟨e0, he0, ep0⟩ := List.mem_map.mp (List.mem_of_getElem? hp)
      have hEp : E p.1 p.2 := by
        have := (cw.cls e0 he0).arr
        rwa [show e0.1 = p from ep0] at this
      obtain ⟨vp, hvp, hprp⟩ := pAt pu3 hp
      refine ⟨_, rfl, _, rfl, _, rfl, _, _, _, _, rfl, rfl, SqL.of hpl3, atI_nat hvp, ?_⟩
      refine ⟨m, rows, n, Ls, E, vp, p.1, p.2, rfl, D.same s3, T, U, hn, hprp, hEp, fun pf ufs ps H4 s4 npf hpf prf hps lps => ⟨pf, rfl, ⟨_, SqL.of hpf⟩, ?_⟩⟩
      have hpfd : pf ≠ d := fun e => by rw [e, hd3] at npf; cases npf
      have hpfl : pf ≠ pl := fun e => by rw [e, hpl3] at npf; cases npf
      refine for_list (K := K) (a := pf) (xs := ufs) (fun k σ H5 => ∃ (us2 : List V) (ex : List Ent2) (kvs2 : DT) (v5 : Option V), σ = [some (.ref m), some (.ref t), some (.ref d), some (.ref pl), some (pI at_), v5] ∧ Same H H5 ∧ H5 d = some (.dT kvs2) ∧ H5 pl = some (.lst us2) ∧ Paired (KvE H5) kvs2 (es ++ ex) ∧ Paired (Pr H5) us2 ((es ++ ex).map (·.1)) ∧ CameW E a b (es ++ ex) ∧ H5 pf = some (.lst ufs) ∧ Paired (Pr H5) ufs ps ∧ ∀ r ∈ ps.take k, r ∈ (es ++ ex).map (·.1))
        ⟨us, [], kvs, v5, rfl, s3.trans s4, s4 _ _ hd3, s4 _ _ hpl3, by rw [List.append_nil]; exact kve_mono (sKt s4) pk3, by rw [List.append_nil]; exact pMono persPr (sKt s4) pu3, by rw [List.append_nil]; exact cw, hpf, prf, fun r hr => by simp at hr⟩ (fun k σ H5 _ ⟨_, _, _, _, _, _, _, _, _, _, _, h, _⟩ => SqL.of h) ?_ ?_
      · rintro k x σ H5 hx ⟨us2, ex, kvs2, v5, rfl, s5, hd5, hpl5, pk5, pu5, cw5, hpf5, prf5, hin⟩
        obtain ⟨r, hr2, tr, rfl, htr⟩ := pAtL prf5 hx
        have etk : ps.take (k + 1) = ps.take k ++ [r] := by rw [List.take_add_one, hr2]; rfl
        have les5 := cw5.len T.lt
        have lk5 := Paired.length pk5
        have lu5 := pu5.length
        rw [List.length_map] at lu5
        refine ⟨_, rfl, _, rfl, d, _, rfl, .inr ⟨kvs2, key r, tr, .inl hd5, rfl, htr, rfl⟩, _, rfl, ?_⟩
        rw [kve_has r pk5]
        refine ifN (fun c2 => ?_) (fun c2 => ?_)
        · have c2 := of_decide_eq_false c2
          have hval : valV kvs2 (key r) = none := by
            have := kve_has r pk5
            rw [decide_eq_false c2] at this
            cases hv : valV kvs2 (key r) with
            | none => rfl
            | some _ => rw [hv] at this; cases this
          have hp5 : ((es ++ ex).map (·.1))[at_]? = some p := by
            rw [List.map_append, List.getElem?_append_left (by rw [List.length_map]; exact c)]
            exact hp
          obtain ⟨vp5, hvp5, hprp5⟩ := pAt pu5 hp5
          refine ⟨_, rfl, _, rfl, _, _, _, _, rfl, rfl, SqL.of hpl5, atI_nat hvp5, _, rfl, _, rfl, d, _, rfl, DPut.t (k := key r) hd5 htr (sizeBig (by omega)), ?_⟩
          rw [putK_new vp5 hval]
          have k1 : KeepT H5 (upd H5 d (.dT (kvs2 ++ [(key r, vp5)]))) := KeepT.dT hd5
          have s6 : Same H (upd H5 d (.dT (kvs2 ++ [(key r, vp5)]))) := sPut s5 hd
          have hd6 : (upd H5 d (.dT (kvs2 ++ [(key r, vp5)]))) d = some (.dT (kvs2 ++ [(key r, vp5)])) := upd_same
          have hpl6 : (upd H5 d (.dT (kvs2 ++ [(key r, vp5)]))) pl = some (.lst us2) := by rw [upd_ne hpd]; exact hpl5
          have hpf6 : (upd H5 d (.dT (kvs2 ++ [(key r, vp5)]))) pf = some (.lst ufs) := by rw [upd_ne hpfd]; exact hpf5
          generalize (upd H5 d (.dT (kvs2 ++ [(key r, vp5)]))) = H6 at k1 s6 hd6 hpl6 hpf6
          have k2 : KeepT H6 (upd H6 pl (.lst (us2 ++ [.ref tr]))) := KeepT.lst hpl6
          have k3 := k1.trans k2
          have htr6 := k3 _ _ htr
          refine ⟨_, rfl, .inl ⟨rfl, _, SqL.of hpl6⟩, _, rfl, pl, _, _, rfl, rfl, hpl6, sizeBig (by omega), ?_⟩
          refine ⟨us2 ++ [.ref tr], ex ++ [(r, some p)], kvs2 ++ [(key r, vp5)], _, rfl, sPut s6 npl, by rw [upd_ne hpd.symm]; exact hd6, upd_same, ?_, ?_, ?_, by rw [upd_ne hpfl]; exact hpf6, pMono persPr k3 prf5, fun r2 hr3 => ?_⟩
          · rw [← List.append_assoc]
            exact kve_app (kve_mono k3 pk5) (.cons ⟨rfl, persPr _ _ _ _ k3 hprp5⟩ .nil)
          · rw [← List.append_assoc, List.map_append]
            exact pApp (pMono persPr k3 pu5) (.cons ⟨tr, rfl, htr6⟩ .nil)
          · rw [← List.append_assoc]
            exact cw5.add hp5 ((hps r).mp (List.mem_of_getElem? hr2)) c2
          · rw [← List.append_assoc, List.map_append, List.mem_append]
            rw [etk] at hr3
            rcases List.mem_append.mp hr3 with h | h
            · exact .inl (hin r2 h)
            · rw [List.mem_singleton.mp h]
              exact .inr (List.mem_singleton.mpr rfl)
        · refine ⟨us2, ex, kvs2, _, rfl, s5, hd5, hpl5, pk5, pu5, cw5, hpf5, prf5, fun r2 hr3 => ?_⟩
          rw [etk] at hr3
          rcases List.mem_append.mp hr3 with h | h
          · exact hin r2 h
          · rw [List.mem_singleton.mp h]
            exact of_decide_eq_true c2
      · rintro σ H5 ⟨us2, ex, kvs2, v5, rfl, s5, hd5, hpl5, pk5, pu5, cw5, hpf5, prf5, hin⟩
        rw [prf.length, List.take_length] at hin
        refine ⟨_, rfl, _, _, rfl, rfl, us2, es ++ ex, kvs2, v5, ?_, s5, hd5, hpl5, pk5, pu5, cw5, fun j p2 hj hp2 r hr2 => ?_, by rw [List.length_append]; omega⟩
        · show [some (V.ref m), some (.ref t), some (.ref d), some (.ref pl), some (.int ((at_ : Int) + 1)), v5] = _
          rfl
        · have hjl : j < (es.map (·.1)).length := by rw [List.length_map]; omega
          rw [List.map_append, List.getElem?_append_left hjl] at hp2
          by_cases ej : j = at_
          · subst ej
            rw [Option.some.inj (hp.symm.trans hp2)] at hps
            exact hin r ((hps r).mpr hr2)
          · have := cl j p2 (by omega) hp2 r hr2
            rw [List.map_append]
            exact List.mem_append_left _ this
    · have c : at_ = es.length := by omega
      subst c
      refine ⟨_, rfl, q d kvs es H3 s3 hd hd3 pk3 cw (fun p => ⟨fun h => ?_, fun h => ?_⟩) (by omega)⟩
      · obtain ⟨e, he, rfl⟩ := List.mem_map.mp h
        exact cw.cls e he
      · have go : ∀ {x y}, Cls E a b x y → (x, y) ∈ es.map (·.1) := fun h => by
          induction h with
          | self _ => exact List.mem_map.mpr ⟨_, List.mem_of_getElem? cw.st, rfl⟩
          | step _ f ih =>
            obtain ⟨j, hj⟩ := List.getElem?_of_mem ih
            have hjl := (List.getElem?_eq_some_iff.mp hj).1
            rw [List.length_map] at hjl
            exact cl j _ hjl hj _ f
        exact go h
end
end Ns

/-! Own layer: arrows told of a net, walked. -/
namespace Ns
open PySem PySem.Spec PyProof.Rows L2
local macro_rules | `(tactic| walk_at "look") => `(tactic| first | assumption | exact upd_same | (refine (upd_ne (by first | assumption | exact Ne.symm (by assumption))).trans ?_; walk_at "look"))
local macro_rules | `(tactic| walk_at "cond") => `(tactic| first | assumption | omega | (dsimp only; omega) | exact ⟨by omega, by omega⟩ | decide | exact ⟨by decide, by decide, by decide⟩ | exact .inr ⟨by decide, by decide⟩ | exact .inl ⟨by decide, by decide⟩ | exact .inr ⟨by omega, by omega⟩ | exact .inl ⟨by omega, by omega⟩)
local macro_rules | `(tactic| walk_at "rd1") => `(tactic| first
  | refine ⟨_, rfl, ?_⟩
  | refine ⟨_, _, rfl, rfl, ?_⟩
  | refine ⟨rfl, ?_⟩
  | refine ⟨_, _, rfl, rfl, (by walk_at "cond"), ?_⟩
  | refine ⟨_, _, _, _, rfl, rfl, SqL.of (by walk_at "look"), rfl, ?_⟩
  | refine ⟨_, _, _, _, rfl, rfl, SqT.of (by walk_at "look"), rfl, ?_⟩
  | refine ⟨_, _, _, _, rfl, rfl, (by walk_at "look"), rfl, ?_⟩
  | refine .inl ⟨_, rfl, ?_⟩
  | refine ⟨.inl ⟨rfl, _, SqL.of (by walk_at "look")⟩, ?_⟩
  | refine ⟨_, _, rfl, ⟨by omega, by omega, by omega, by omega⟩, ?_⟩
  | refine ⟨_, rfl, (by omega), (by omega), ?_⟩
  | refine And.intro (by walk_at "cond") ?_)
local macro_rules | `(tactic| walk_at "rd") => `(tactic| repeat (walk_at "rd1"))

abbrev N_turned_round : List Str := ["net", "near", "seen", "a", "b", "came", "x", "y"]
theorem sc_turned_round : FnScope N_turned_round ["net"] (defScope s_turned_round) := ⟨rfl, rfl, rfl, by decide +kernel, rfl, by decide +kernel, by decide +kernel⟩
abbrev N_arrows_of : List Str := ["net", "place", "left", "arrows", "a", "b", "turn", "x", "y"]
theorem sc_arrows_of : FnScope N_arrows_of ["net"] (defScope s_arrows_of) := ⟨rfl, rfl, rfl, by decide +kernel, rfl, by decide +kernel, by decide +kernel⟩
section
variable {P : Program} {w : World} {K : PySem.W.Frag} {mg : Str → Option Value} {base : Heap}
/-- arrows, each forcing the next one -/
def ChainOk (E : Ar) (R : List (Nat × Nat)) : Prop := ∀ k x y, R[k]? = some x → R[k + 1]? = some y → Frc E x.1 x.2 y.1 y.2
theorem pRev {α β : Type} {F : α → β → Prop} : ∀ {as : List α} {bs : List β}, Paired F as bs → Paired F as.reverse bs.reverse
  | _, _, .nil => .nil
  | _, _, .cons h t => by
    rw [List.reverse_cons, List.reverse_cons]
    exact pApp (pRev t) (.cons h .nil)
def sp_chain : Sp := fun vs H Q _ => ∃ (d : Addr) (kvs : DT) (es : List Ent2) (E : Ar) (v : V) (a b : Nat) (p0 : Nat × Nat), vs = [.ref d, v] ∧ H d = some (.dT kvs) ∧ Paired (KvE H) kvs es ∧ CameW E a b es ∧ es.length ≤ 1600 ∧ Pr H v p0 ∧ p0 ∈ es.map (·.1) ∧
  ∀ (t : Addr) (us : List V) (R : List (Nat × Nat)) (H' : Hp), Same H H' → H' t = some (.tup us) → Paired (Pr H') us R → R[0]? = some (a, b) → R.getLast? = some p0 → ChainOk E R → R.length ≤ 1600 → (∀ e ∈ R, ∃ i : Nat, (es.map (·.1))[i]? = some e) → Q (.ref t) H'
theorem cal_chain (A : At K mg "_chain" s_chain) (B : Bi mg) : Cal P w K mg base 1 "_chain" sp_chain := by
  have nd := sc_chain.nd
  refine A.cal sc_chain (fun _ _ _ _ _ _ us hl => match us, hl with | [_, _], _ => rfl) ?_ fun f cdv A' outer s H vs Q E0 hr h => ⟨_, (pss_cons (ps_set (i := 2) nd rfl (.inl rfl) (pe_lst pa_nil))
  (pss_cons (ps_while passOwn (pt_cmpR op_notN (pv 1) pe_non (nomark _)) (pss_cons (ps_expr (pe_bm PySem.F.plainAttrs_list PySem.F.slot_list_append PySem.F.type_list_append mt_append (pv 2) (pa_cons (pv 1) pa_nil)))
  (pss_one (ps_set (i := 1) nd rfl (.inl rfl) (pe_dget (hu_of hr) (pv 0) (pv 1) (fun _ _ => rfl))))))
  (pss_one (ps_ret (pe_callTy (call_tuple_ofK (K := K) rfl) (by rfl) B.tuple (by decide +kernel) (pa_cons (pe_revLK (K := K) rfl (pv 2)) pa_nil)))))), ?_⟩
  · rintro vs H Q E ⟨d, kvs, es, E, v, a, b, p0, rfl, _⟩
    rfl
  · obtain ⟨d, kvs, es, E, v, a, b, p0, rfl, hd, pk, cw, les, hv, hp0, q⟩ := h
    obtain ⟨i0, hi0⟩ := List.getElem?_of_mem hp0
    have hi0l := (List.getElem?_eq_some_iff.mp hi0).1
    rw [List.length_map] at hi0l
    refine ⟨Nat.zero_le _, fun pr hpr => ?_⟩
    have hdr : d ≠ pr := fun e => by rw [e, hpr] at hd; cases hd
    refine ⟨fun mm σ H3 => ∃ (cur : V) (us : List V) (ps : List (Nat × Nat)) (ci : Nat), σ = [some (.ref d), some cur, some (.ref pr)] ∧ Same H H3 ∧ H3 pr = some (.lst us) ∧ Paired (Pr H3) us ps ∧ ps.length + ci ≤ es.length ∧ mm = ci ∧ (∀ e ∈ ps, ∃ i : Nat, (es.map (·.1))[i]? = some e) ∧ (∀ x, ps[0]? = some x → x = p0) ∧
        (∀ k x y, ps[k]? = some x → ps[k + 1]? = some y → Frc E y.1 y.2 x.1 x.2) ∧
        ((ci = 0 ∧ cur = .non ∧ ps.getLast? = some (a, b)) ∨ ∃ i p, ci = i + 1 ∧ (es.map (·.1))[i]? = some p ∧ Pr H3 cur p ∧ (ps = [] → p = p0) ∧ ∀ x, ps.getLast? = some x → Frc E p.1 p.2 x.1 x.2),
      ⟨_, v, [], [], i0 + 1, rfl, same_laid hpr, upd_same, .nil, by rw [List.length_nil]; omega, rfl, (fun e h => nomatch h), (fun x h => nomatch h), (fun k x y h => nomatch h), .inr ⟨i0, p0, rfl, hi0, persPr _ _ _ _ (KeepT.new hpr) hv, fun _ => rfl, fun x h => nomatch h⟩⟩, ?_⟩
    rintro mm σ H3 ⟨cur, us, ps, ci, rfl, s3, hpr3, pu3, lps, rfl, hin, hfst, hch, hcur⟩
    have lus := pu3.length
    rcases hcur with ⟨rfl, rfl, hlast⟩ | ⟨i, p, rfl, hip, hcp, hp0', hfr⟩
    · refine ⟨_, rfl, rfl, _, rfl, iteF ?_⟩
      refine ⟨_, rfl, pr, _, rfl, SqL.of hpr3, fun p2 hp2 => ⟨p2, _, rfl, .inl ⟨SqL.of upd_same, fun t ht => ?_⟩⟩⟩
      have s4 := (same_laid (o := .lst us.reverse) hp2).trans (same_laid (o := .tup us.reverse) ht)
      have hl0 : ps.length ≠ 0 := fun e => by
        rw [List.eq_nil_of_length_eq_zero e] at hlast
        cases hlast
      refine q t us.reverse ps.reverse _ (s3.trans s4) upd_same (pRev (pMono persPr (sKt s4) pu3)) ?_ ?_ (fun k x y hx hy => ?_) (by rw [List.length_reverse]; omega) (fun e he => hin e (List.mem_reverse.mp he))
      · rw [List.getElem?_reverse (by omega), Nat.sub_zero, ← List.getLast?_eq_getElem?]
        exact hlast
      · rw [List.getLast?_reverse, List.head?_eq_getElem?]
        have hx : ps[0]? = some ps[0] := List.getElem?_eq_getElem (by omega)
        rw [hx, hfst _ hx]
      · have hk : k + 1 < ps.length := by
          have := (List.getElem?_eq_some_iff.mp hy).1
          rwa [List.length_reverse] at this
        rw [List.getElem?_reverse (by omega)] at hx
        rw [List.getElem?_reverse hk] at hy
        refine hch (ps.length - 1 - (k + 1)) y x hy ?_
        rw [show ps.length - 1 - (k + 1) + 1 = ps.length - 1 - k by omega]
        exact hx
    · obtain ⟨tp, rfl, htp⟩ := hcp
      refine ⟨_, rfl, rfl, _, rfl, iteT ?_⟩
      refine ⟨fun σ' H' => ∃ (cur : V) (us : List V) (ps : List (Nat × Nat)) (ci : Nat), σ' = [some (.ref d), some cur, some (.ref pr)] ∧ Same H H' ∧ H' pr = some (.lst us) ∧ Paired (Pr H') us ps ∧ ps.length + ci ≤ es.length ∧ ci < i + 1 ∧ (∀ e ∈ ps, ∃ i : Nat, (es.map (·.1))[i]? = some e) ∧ (∀ x, ps[0]? = some x → x = p0) ∧
        (∀ k x y, ps[k]? = some x → ps[k + 1]? = some y → Frc E y.1 y.2 x.1 x.2) ∧
        ((ci = 0 ∧ cur = .non ∧ ps.getLast? = some (a, b)) ∨ ∃ i p, ci = i + 1 ∧ (es.map (·.1))[i]? = some p ∧ Pr H' cur p ∧ (ps = [] → p = p0) ∧ ∀ x, ps.getLast? = some x → Frc E p.1 p.2 x.1 x.2), fun σ' H' ⟨cur, us, ps, ci, e1, e2, e3, e4, e5, e6, e7, e8, e9, e10⟩ => ⟨ci, e6, cur, us, ps, ci, e1, e2, e3, e4, e5, rfl, e7, e8, e9, e10⟩, ?_⟩
      have hpr3' := hpr3
      refine ⟨_, rfl, .inl ⟨rfl, _, SqL.of hpr3⟩, _, rfl, pr, _, _, rfl, rfl, hpr3, sizeBig (by omega), ?_⟩
      have k1 : KeepT H3 (upd H3 pr (.lst (us ++ [.ref tp]))) := KeepT.lst hpr3
      have s4 : Same H (upd H3 pr (.lst (us ++ [.ref tp]))) := sPut s3 hpr
      have pu4 : Paired (Pr (upd H3 pr (.lst (us ++ [.ref tp])))) (us ++ [.ref tp]) (ps ++ [p]) := pApp (pMono persPr k1 pu3) (.cons ⟨tp, rfl, k1 _ _ htp⟩ .nil)
      have hd4 : (upd H3 pr (.lst (us ++ [.ref tp]))) d = some (.dT kvs) := by rw [upd_ne hdr]; exact s3 _ _ hd
      have pk4 := kve_mono ((sKt s3).trans k1) pk
      obtain ⟨qe, hqe⟩ : ∃ qe, es[i]? = some (p, qe) := by
        rw [List.getElem?_map] at hip
        obtain ⟨e, he, ep⟩ := Option.map_eq_some_iff.mp hip
        exact ⟨e.2, by rw [he, ← ep]⟩
      obtain ⟨v', hv1, hv2⟩ := kve_val pk4 cw.nd _ (List.mem_of_getElem? hqe)
      refine ⟨_, rfl, _, rfl, d, _, rfl, .inr ⟨kvs, key p, tp, .inl hd4, rfl, k1 _ _ htp, hv1.symm⟩, ?_⟩
      have hin4 : ∀ e ∈ ps ++ [p], ∃ i : Nat, (es.map (·.1))[i]? = some e := fun e he => by
        rcases List.mem_append.mp he with he | he
        · exact hin e he
        · rw [List.mem_singleton.mp he]
          exact ⟨i, hip⟩
      have hf4 : ∀ x, (ps ++ [p])[0]? = some x → x = p0 := fun x hx => by
        cases ps with
        | nil => rw [← hp0' rfl]; exact (Option.some.inj hx).symm
        | cons y r => exact hfst x hx
      have hc4 : ∀ k x y, (ps ++ [p])[k]? = some x → (ps ++ [p])[k + 1]? = some y → Frc E y.1 y.2 x.1 x.2 := fun k x y hx hy => by
        by_cases c : k + 1 < ps.length
        · rw [List.getElem?_append_left (by omega)] at hx
          rw [List.getElem?_append_left c] at hy
          exact hch k x y hx hy
        · have hk := (List.getElem?_eq_some_iff.mp hy).1
          rw [List.length_append, List.length_cons, List.length_nil] at hk
          rw [List.getElem?_append_left (by omega)] at hx
          rw [List.getElem?_append_right (by omega), show k + 1 - ps.length = 0 by omega] at hy
          rw [← Option.some.inj hy]
          exact hfr x (by rw [List.getLast?_eq_getElem?, show ps.length - 1 = k by omega]; exact hx)
      have hl4 : (ps ++ [p]).getLast? = some p := by simp
      rcases cw.par i p qe hqe with ⟨rfl, rfl⟩ | ⟨j, p', hj, hjp, rfl, f⟩
      · have ep : p = (a, b) := by
          have := cw.st
          rw [hqe] at this
          exact (Prod.mk.inj (Option.some.inj this)).1
        exact ⟨v', _, _, 0, rfl, s4, upd_same, pu4, by rw [List.length_append, List.length_cons, List.length_nil]; omega, by omega, hin4, hf4, hc4, .inl ⟨rfl, hv2, by rw [hl4, ep]⟩⟩
      · refine ⟨v', _, _, j + 1, rfl, s4, upd_same, pu4, by rw [List.length_append, List.length_cons, List.length_nil]; omega, by omega, hin4, hf4, hc4, .inr ⟨j, p', rfl, hjp, hv2, fun e => ?_, fun x hx => ?_⟩⟩
        · simp at e
        · rw [hl4] at hx
          rw [← Option.some.inj hx]
          exact f
/-- None, and no arrow forces itself turned round; or arrows from one to the same one turned round -/
def TurnOut (H : Hp) (E : Ar) (u : V) : Prop := (u = .non ∧ NoTurn E) ∨ ∃ (t : Addr) (us : List V) (R : List (Nat × Nat)) (a b : Nat), u = .ref t ∧ H t = some (.tup us) ∧ Paired (Pr H) us R ∧ R[0]? = some (a, b) ∧ R.getLast? = some (b, a) ∧ ChainOk E R ∧ R.length ≤ 1600 ∧ E a b ∧ Cls E a b b a
def sp_tround : Sp := fun vs H Q _ => ∃ (v : V) (n : Nat) (ties : List (Nat × Nat)), vs = [v] ∧ Net H v n ties ∧ n ≤ 40 ∧ Good n ties ∧ ∀ (u : V) (H' : Hp), Same H H' → TurnOut H' (tieE ties) u → Q u H'
theorem cal_tround (A : At K mg "_turned_round" s_turned_round) (B : Bi mg) (c_neighbours_arrows : Cal P w K mg base 1 "neighbours_arrows" sp_nearA) (c_forced_from : Cal P w K mg base 2 "forced_from" sp_ffrom) (c_chain : Cal P w K mg base 1 "_chain" sp_chain) : Cal P w K mg base 3 "_turned_round" sp_tround := by
  have nd := sc_turned_round.nd
  refine A.cal sc_turned_round (fun _ _ _ _ _ _ us hl => match us, hl with | [_], _ => rfl) ?_ fun f cdv A' outer s H vs Q E0 hr h => ⟨_, (pss_cons (ps_set (i := 1) nd rfl (.inl rfl) (pe_cal c_neighbours_arrows hr (by first | decide | omega) (by rfl) passE (pa_cons (pv 0) pa_nil)))
  (pss_cons (ps_set (i := 2) nd rfl (.inl rfl) pe_dnewT)
  (pss_cons (ps_for passOwn rfl (pi_tupK (K := K) rfl (pe_ix (ix_tupK (K := K) rfl) (pv 0) pe_int (fun _ _ => rfl))) (pg_tupK (K := K) (n := 2) rfl rfl (pgs_cons (pg_name (i := 3) nd rfl (.inl rfl)) (pgs_cons (pg_name (i := 4) nd rfl (.inl rfl)) pgs_nil))) (pss_one (ps_if (pt_cmp (pc_dnotin (hu_of hr) (pe_tup (pa_cons (pv 3) (pa_cons (pv 4) pa_nil))) (pv 2)) rfl) (pss_cons (ps_set (i := 5) nd rfl (.inl rfl) (pe_cal c_forced_from hr (by first | decide | omega) (by rfl) passE (pa_cons (pv 1) (pa_cons (pe_tup (pa_cons (pv 3) (pa_cons (pv 4) pa_nil))) pa_nil))))
  (pss_cons (ps_if (pt_cmp (pc_din (hu_of hr) (pe_tup (pa_cons (pv 4) (pa_cons (pv 3) pa_nil))) (pv 5)) rfl) (pss_one (ps_ret (pe_cal c_chain hr (by first | decide | omega) (by rfl) passE (pa_cons (pv 5) (pa_cons (pe_tup (pa_cons (pv 4) (pa_cons (pv 3) pa_nil))) pa_nil))))) pss_nil)
  (pss_one (ps_lock (ps_for passOwn rfl (pi_keys (pv 5)) (pg_tupK (K := K) (n := 2) rfl rfl (pgs_cons (pg_name (i := 6) nd rfl (.inl rfl)) (pgs_cons (pg_name (i := 7) nd rfl (.inl rfl)) pgs_nil))) (pss_cons (ps_dput (hu_of hr) (pv 2) (pe_tup (pa_cons (pv 6) (pa_cons (pv 7) pa_nil))) pe_bl rfl)
  (pss_one (ps_dput (hu_of hr) (pv 2) (pe_tup (pa_cons (pv 7) (pa_cons (pv 6) pa_nil))) pe_bl rfl)))))))) pss_nil)))
  (pss_one (ps_ret pe_non))))), ?_⟩
  · rintro vs H Q E ⟨v, n, ties, rfl, _⟩
    rfl
  · obtain ⟨v, n, ties, rfl, hN, hn, hg, q⟩ := h
    have U := tieE_und hg
    have hnn : n * n ≤ 40 * 40 := Nat.mul_le_mul hn hn
    refine ⟨_, rfl, v, n, ties, rfl, hN, hn, hg, fun m rows Ls H2 s2 nm hnew D T => ?_⟩
    refine fun ds hds => ?_
    obtain ⟨t0, u0, rfl, h0, t2, us, rfl, h2, pr⟩ := hN.keep (sKt s2)
    have h0 : H2 t0 = some (.tup [pI n, .ref t2]) := h0
    have sd := same_laid (o := .dT []) hds
    refine ⟨_, rfl, _, _, _, _, rfl, rfl, SqT.of (sd _ _ h0), rfl, t2, rfl, ⟨_, SqT.of (sd _ _ h2)⟩, ?_⟩
    refine for_tup (K := K) (a := t2) (xs := us) (fun i σ H3 => ∃ v3 v4 v5 v6 v7 kvs, σ = [some (.ref t0), some (.ref m), some (.ref ds), v3, v4, v5, v6, v7] ∧ Same H2 H3 ∧ H3 ds = some (.dT kvs) ∧ KeysIn n kvs ∧ (∀ x : Nat × Nat, hasP kvs x = true → ¬ Cls (tieE ties) x.1 x.2 x.2 x.1) ∧ ∀ p ∈ ties.take i, hasP kvs p = true) ⟨none, none, none, none, none, [], rfl, sd, upd_same, KeysIn.nil, (fun x h => nomatch h), fun p hp => nomatch hp⟩ (fun i σ H3 _ ⟨_, _, _, _, _, _, _, s3, _⟩ => SqT.of (s3 _ _ h2)) ?_ ?_
    · rintro i x σ H3 hx ⟨v3, v4, v5, v6, v7, kvs, rfl, s3, hd3, ki, nt, dn⟩
      obtain ⟨p, hp, tp, rfl, htp⟩ := pAtL pr hx
      obtain ⟨a, b⟩ := p
      have hpm := List.mem_of_getElem? hp
      have hb := hg.1 _ hpm
      dsimp only at hb
      have hE : tieE ties a b := decide_eq_true (.inl hpm)
      have etk : ties.take (i + 1) = ties.take i ++ [(a, b)] := by rw [List.take_add_one, hp]; rfl
      refine ⟨tp, _, rfl, SqT.of (s3 _ _ htp), rfl, _, _, rfl, _, _, rfl, rfl, ?_⟩
      refine ⟨_, rfl, _, rfl, by show 2 ≤ sizeLine; decide, fun ta hta => ?_⟩
      have s4 := sNew s3 (o := .tup [pI a, pI b]) hta
      have hd4 := same_laid (o := .tup [pI a, pI b]) hta _ _ hd3
      refine ⟨_, rfl, ds, _, rfl, .inr ⟨kvs, key (a, b), ta, .inl hd4, rfl, upd_same, rfl⟩, _, rfl, ?_⟩
      show if (!hasP kvs (a, b)) = true then _ else _
      generalize (upd H3 ta (.tup [pI a, pI b])) = H4 at s4 hd4
      refine ifN (fun c => ?_) (fun c => ?_)
      · refine ⟨_, rfl, _, rfl, _, rfl, by show 2 ≤ sizeLine; decide, fun tb htb => ?_⟩
        have s5 := sNew s4 (o := .tup [pI a, pI b]) htb
        have hd5 := same_laid (o := .tup [pI a, pI b]) htb _ _ hd4
        refine ⟨m, rows, n, Ls, tieE ties, .ref tb, a, b, rfl, D.same s5, T, U, hn, ⟨tb, rfl, upd_same⟩, hE, fun d kvd es H6 s6 nd6 hd6 pk6 cw6 cls6 les6 => ?_⟩
        have s26 := s5.trans s6
        have hds6 := s6 _ _ hd5
        have n2d : H2 d = none := gone s5 nd6
        have dne : ds ≠ d := fun e => by rw [e, nd6] at hd5; cases hd5
        refine ⟨_, rfl, _, rfl, by show 2 ≤ sizeLine; decide, fun tc htc => ?_⟩
        have x7 := same_laid (o := .tup [pI b, pI a]) htc
        have s27 := s26.trans x7
        have pk7 := kve_mono (sKt x7) pk6
        refine ⟨_, rfl, d, _, rfl, .inr ⟨kvd, key (b, a), tc, .inl (x7 _ _ hd6), rfl, upd_same, rfl⟩, _, rfl, ?_⟩
        rw [kve_has (b, a) pk7]
        have hd7 := x7 _ _ hd6
        have hds7 := x7 _ _ hds6
        generalize (upd H6 tc (.tup [pI b, pI a])) = H7 at x7 s27 pk7 hd7 hds7
        refine ifD (fun c2 => ?_) (fun c2 => ?_)
        · refine ⟨_, rfl, _, rfl, _, rfl, by show 2 ≤ sizeLine; decide, fun te hte => ?_⟩
          have x8 := same_laid (o := .tup [pI b, pI a]) hte
          refine ⟨d, kvd, es, tieE ties, .ref te, a, b, (b, a), rfl, x8 _ _ hd7, kve_mono (sKt x8) pk7, cw6, les6, ⟨te, rfl, upd_same⟩, c2, fun t us R H9 s9 ht9 pr9 r1 r2 r3 r4 _ => ?_⟩
          exact q _ _ (s2.trans ((s27.trans x8).trans s9)) (.inr ⟨t, us, R, a, b, rfl, ht9, pr9, r1, r2, r3, r4, hE, (cls6 (b, a)).mp c2⟩)
        · have hno : ¬ Cls (tieE ties) a b b a := fun h => c2 ((cls6 (b, a)).mpr h)
          have bad : ∀ {x y}, Cls (tieE ties) a b x y → ¬ Cls (tieE ties) x y y x := fun h g => hno ((h.trans g).trans ((h.rev U).symm U))
          refine ⟨d, _, hd7, trivial, fun od => ?_⟩
          refine ⟨_, rfl, d, od, rfl, .inr ⟨_, upd_same, ?_⟩⟩
          refine for_it walk_keysT (fun k σ H8 => ∃ v6 v7 kvs, σ = [some (.ref t0), some (.ref m), some (.ref ds), some (pI a), some (pI b), some (.ref d), v6, v7] ∧ Same H2 H8 ∧ H8 d = some (.frz od (.dT kvd)) ∧ H8 ds = some (.dT kvs) ∧ KeysIn n kvs ∧ (∀ x : Nat × Nat, hasP kvs x = true → ¬ Cls (tieE ties) x.1 x.2 x.2 x.1) ∧ (∀ p ∈ ties.take i, hasP kvs p = true) ∧ ∀ e ∈ es.take k, hasP kvs e.1 = true) ⟨v6, v7, kvs, rfl, sPut s27 n2d, upd_same, by rw [upd_ne dne]; exact hds7, ki, nt, dn, fun e he => by simp at he⟩ (fun k σ H8 _ ⟨_, _, _, _, _, h, _⟩ => h) ?_ ?_
          · rintro k x σ H8o H8 hk ⟨v6, v7, kvs, rfl, s8, hd8, hds8, ki, nt, dn, dk⟩ ⟨rfl, kk, vv, tq, hkv, rfl, htq⟩
            obtain ⟨e, he, hkv2⟩ := pAtL pk7 hkv
            obtain ⟨hk1, _⟩ := hkv2
            have hk1 : kk = key e.1 := hk1
            subst hk1
            obtain ⟨⟨x, y⟩, qe⟩ := e
            have hcl := cw6.cls _ (List.mem_of_getElem? he)
            dsimp only at hcl
            have hlt := tieE_lt hg hcl.arr
            have lk := ki.len
            refine ⟨tq, _, rfl, SqT.of htq, rfl, _, _, rfl, _, _, rfl, rfl, ?_⟩
            have put : ∀ {kvs : DT} {z : Nat × Nat}, KeysIn n kvs → z.1 < n ∧ z.2 < n → KeysIn n (putK kvs (key z) (.bl true)) := fun {kvs z} h hz => by
              obtain ⟨ks, h⟩ := h
              exact ⟨_, h.put hz⟩
            have ki1 := put (z := (x, y)) ki hlt
            have ki2 := put (z := (y, x)) ki1 ⟨hlt.2, hlt.1⟩
            have lk1 := ki1.len
            refine ⟨_, rfl, _, rfl, _, rfl, by show 2 ≤ sizeLine; decide, fun t3 h3 => ?_⟩
            have hds9 := same_laid (o := .tup [pI x, pI y]) h3 _ _ hds8
            refine ⟨ds, _, rfl, DPut.t (k := key (x, y)) hds9 upd_same (sizeBig (by omega)), ?_⟩
            have s9 := sPut (o := .dT (putK kvs (key (x, y)) (.bl true))) (sNew s8 (o := .tup [pI x, pI y]) h3) hds
            have hd9 : (upd (upd H8 t3 (.tup [pI x, pI y])) ds (.dT (putK kvs (key (x, y)) (.bl true)))) d = some (.frz od (.dT kvd)) := by
              rw [upd_ne dne.symm]
              exact same_laid h3 _ _ hd8
            have hds9 : (upd (upd H8 t3 (.tup [pI x, pI y])) ds (.dT (putK kvs (key (x, y)) (.bl true)))) ds = some (.dT (putK kvs (key (x, y)) (.bl true))) := upd_same
            refine ⟨_, rfl, _, rfl, _, rfl, by show 2 ≤ sizeLine; decide, fun t4 h4 => ?_⟩
            have hds10 := same_laid (o := .tup [pI y, pI x]) h4 _ _ hds9
            refine ⟨ds, _, rfl, DPut.t (k := key (y, x)) hds10 upd_same (sizeBig (by omega)), ?_⟩
            refine ⟨_, _, _, rfl, sPut (sNew s9 (o := .tup [pI y, pI x]) h4) hds, ?_, upd_same, ki2, fun z hz => ?_, fun z hz => ?_, fun e he2 => ?_⟩
            · rw [upd_ne dne.symm]
              exact same_laid h4 _ _ hd9
            · rw [hasP_put, hasP_put, Bool.or_eq_true, Bool.or_eq_true, decide_eq_true_eq, decide_eq_true_eq] at hz
              rcases hz with rfl | rfl | hz
              · exact fun g => bad hcl (g.rev U)
              · exact bad hcl
              · exact nt z hz
            · rw [hasP_put, hasP_put, dn z hz, Bool.or_true, Bool.or_true]
            · rw [List.take_add_one, List.mem_append, he] at he2
              rw [hasP_put, hasP_put]
              rcases he2 with he2 | he2
              · rw [dk e he2, Bool.or_true, Bool.or_true]
              · rw [List.mem_singleton.mp he2]
                simp
          · rintro σ H8 ⟨v6, v7, kvs, rfl, s8, hd8, hds8, ki, nt, dn, dk⟩
            rw [Paired.length pk7, List.take_length] at dk
            refine ⟨hd8, _, _, _, _, _, kvs, rfl, sPut s8 n2d, by rw [upd_ne dne]; exact hds8, ki, nt, fun z hz => ?_⟩
            rw [etk] at hz
            rcases List.mem_append.mp hz with hz | hz
            · exact dn z hz
            · rw [List.mem_singleton.mp hz]
              have := dk _ (List.mem_of_getElem? cw6.st)
              exact this
      · refine ⟨_, _, _, _, _, kvs, rfl, s4, hd4, ki, nt, fun z hz => ?_⟩
        rw [etk] at hz
        rcases List.mem_append.mp hz with hz | hz
        · exact dn z hz
        · rw [List.mem_singleton.mp hz]
          exact c
    · rintro σ H3 ⟨v3, v4, v5, v6, v7, kvs, rfl, s3, hd3, ki, nt, dn⟩
      rw [pr.length, List.take_length] at dn
      refine q .non H3 (s2.trans s3) (.inl ⟨rfl, fun x y hxy hc => ?_⟩)
      have hxy : (x, y) ∈ ties ∨ (y, x) ∈ ties := of_decide_eq_true hxy
      rcases hxy with h | h
      · exact nt _ (dn _ h) hc
      · exact nt _ (dn _ h) (hc.rev U)
theorem TO.congr {E F G : Ar} (O : TO E F) (h : ∀ x y, F x y ↔ G x y) : TO E G :=
  ⟨fun g => O.sub ((h _ _).mpr g), fun e => (O.all e).imp (h _ _).mp (h _ _).mp, fun g k => O.one ((h _ _).mpr g) ((h _ _).mpr k), fun g k => (h _ _).mp (O.go ((h _ _).mpr g) ((h _ _).mpr k))⟩
theorem kv_prs {H : Hp} : ∀ {kvs : DT} {es : List Ent2} {bs : List Addr}, Paired (KvE H) kvs es → IsKeys H kvs bs → Paired (Pr H) (bs.map V.ref) (es.map (·.1))
  | _, _, _, .nil, .nil => .nil
  | _, _, _, .cons ⟨h1, _⟩ t, .cons k r => .cons ⟨_, rfl, by rw [h1] at k; exact k⟩ (kv_prs t r)
/-- arrows that go through, in order; or arrows from one to the same one turned round -/
def ToldA (H : Hp) (n : Nat) (ties : List (Nat × Nat)) (t : Addr) : Prop := ∃ (s : Addr) (us : List V) (R : List (Nat × Nat)), H s = some (.tup us) ∧ Paired (Pr H) us R ∧ R.length ≤ 1600 ∧
  ((H t = some (.tup [.bl true, .ref s]) ∧ R.Pairwise ltP ∧ TO (tieE ties) fun x y => (x, y) ∈ R) ∨
   (H t = some (.tup [.bl false, .ref s]) ∧ ∃ a b, R[0]? = some (a, b) ∧ R.getLast? = some (b, a) ∧ ChainOk (tieE ties) R ∧ tieE ties a b ∧ Cls (tieE ties) a b b a))
def sp_arrows_of : Sp := fun vs H Q _ => ∃ (v : V) (n : Nat) (ties : List (Nat × Nat)), vs = [v] ∧ Net H v n ties ∧ n ≤ 40 ∧ Good n ties ∧ ∀ (t : Addr) (H' : Hp), Same H H' → ToldA H' n ties t → Q (.ref t) H'
theorem cal_arrows_of (A : At K mg "arrows_of" s_arrows_of) (B : Bi mg) (c_turned_round : Cal P w K mg base 3 "_turned_round" sp_tround) (c_neighbours_arrows : Cal P w K mg base 1 "neighbours_arrows" sp_nearA) (c_forced_from : Cal P w K mg base 2 "forced_from" sp_ffrom) : Cal P w K mg base 4 "arrows_of" sp_arrows_of := by
  have nd := sc_arrows_of.nd
  refine A.cal sc_arrows_of (fun _ _ _ _ _ _ us hl => match us, hl with | [_], _ => rfl) ?_ fun f cdv A' outer s H vs Q E0 hr h => ⟨_, (pss_cons (ps_set (i := 1) nd rfl (.inl rfl) (pe_cal c_turned_round hr (by first | decide | omega) (by rfl) passE (pa_cons (pv 0) pa_nil)))
  (pss_cons (ps_if (pt_cmpR op_notN (pv 1) pe_non (nomark _)) (pss_one (ps_ret (pe_tup (pa_cons pe_bl (pa_cons (pv 1) pa_nil))))) pss_nil)
  (pss_cons (ps_set (i := 2) nd rfl (.inl rfl) (pe_cal c_neighbours_arrows hr (by first | decide | omega) (by rfl) passE (pa_cons (pv 0) pa_nil)))
  (pss_cons (ps_set (i := 3) nd rfl (.inl rfl) (pe_lst pa_nil))
  (pss_cons (ps_for passOwn rfl (pi_tupK (K := K) rfl (pe_ix (ix_tupK (K := K) rfl) (pv 0) pe_int (fun _ _ => rfl))) (pg_tupK (K := K) (n := 2) rfl rfl (pgs_cons (pg_name (i := 4) nd rfl (.inl rfl)) (pgs_cons (pg_name (i := 5) nd rfl (.inl rfl)) pgs_nil))) (pss_one (ps_if (pt_cmp (pc_din (hu_of hr) (pv 5) (pe_ix (ix_listK (K := K) rfl) (pv 2) (pv 4) (fun _ _ => rfl))) rfl) (pss_cons (ps_set (i := 6) nd rfl (.inl rfl) (pe_callTy (call_list_dT rfl) (by rfl) B.list (by decide +kernel) (pa_cons (pe_cal c_forced_from hr (by first | decide | omega) (by rfl) passE (pa_cons (pv 2) (pa_cons (pe_tup (pa_cons (pv 4) (pa_cons (pv 5) pa_nil))) pa_nil))) pa_nil)))
  (pss_cons (ps_for passOwn rfl (pi_listK (K := K) rfl (pv 6)) (pg_tupK (K := K) (n := 2) rfl rfl (pgs_cons (pg_name (i := 7) nd rfl (.inl rfl)) (pgs_cons (pg_name (i := 8) nd rfl (.inl rfl)) pgs_nil))) (pss_cons (ps_ddel (pe_ix (ix_listK (K := K) rfl) (pv 2) (pv 7) (fun _ _ => rfl)) (pv 8))
  (pss_one (ps_ddel (pe_ix (ix_listK (K := K) rfl) (pv 2) (pv 8) (fun _ _ => rfl)) (pv 7)))))
  (pss_one (ps_expr (pe_bm PySem.F.plainAttrs_list PySem.F.slot_list_extend PySem.F.type_list_extend mt_extend (pv 3) (pa_cons (pv 6) pa_nil)))))) pss_nil)))
  (pss_one (ps_ret (pe_tup (pa_cons pe_bl (pa_cons (pe_callTy (call_tuple_ofK (K := K) rfl) (by rfl) B.tuple (by decide +kernel) (pa_cons (pe_callB (cr_sortedSP (K := K) rfl) (by rfl) B.sorted (by decide +kernel) (pa_cons (pv 3) pa_nil)) pa_nil)) pa_nil)))))))))), ?_⟩
  · rintro vs H Q E ⟨v, n, ties, rfl, _⟩
    rfl
  · obtain ⟨v, n, ties, rfl, hN, hn, hg, q⟩ := h
    have U0 := tieE_und hg
    have hnn : n * n ≤ 40 * 40 := Nat.mul_le_mul hn hn
    refine ⟨_, rfl, v, n, ties, rfl, hN, hn, hg, fun u H1 s1 tr => ?_⟩
    rcases tr with ⟨rfl, NT⟩ | ⟨t, us, R, a, b, rfl, ht, pR, r1, r2, r3, r4, r5, r6⟩
    rotate_left
    · refine ⟨_, rfl, rfl, _, rfl, iteT ⟨_, rfl, by show 2 ≤ sizeLine; decide, fun t2 ht2 => ?_⟩⟩
      have x2 := same_laid (o := .tup [.bl false, .ref t]) ht2
      exact q t2 _ (s1.trans x2) ⟨t, us, R, x2 _ _ ht, pMono persPr (sKt x2) pR, r4, .inr ⟨upd_same, a, b, r1, r2, r3, r5, r6⟩⟩
    refine ⟨_, rfl, rfl, _, rfl, iteF ?_⟩
    have hN1 := hN.keep (sKt s1)
    refine ⟨_, rfl, v, n, ties, rfl, hN1, hn, hg, fun m rows Ls0 H2 s2 nm hnew D0 T0 => ?_⟩
    refine ⟨Nat.zero_le _, fun pa hpa => ?_⟩
    obtain ⟨t0, u0, rfl, h0, t2, uts, rfl, h2, pr⟩ := hN1
    have h0 : H1 t0 = some (.tup [pI n, .ref t2]) := h0
    have n1pa : H1 pa = none := gone s2 hpa
    have sp := same_laid (o := .lst []) hpa
    have mpa : pa ≠ m := fun e => by rw [e, D0.top] at hpa; cases hpa
    have rpa : pa ∉ rows := fun hm => by
      obtain ⟨i, hi⟩ := List.getElem?_of_mem hm
      rw [D0.at_ i pa hi] at hpa
      cases hpa
    have s12 := s2.trans sp
    refine ⟨_, rfl, _, _, _, _, rfl, rfl, SqT.of (s12 _ _ h0), rfl, t2, rfl, ⟨_, SqT.of (s12 _ _ h2)⟩, ?_⟩
    refine for_tup (K := K) (a := t2) (xs := uts) (fun i σ H3 => ∃ (v4 v5 v6 v7 v8 : Option V) (Ls : Nat → List Nat) (E : Ar) (us : List V) (acc : List (Nat × Nat)), σ = [some (.ref t0), some .non, some (.ref m), some (.ref pa), v4, v5, v6, v7, v8] ∧ Same H1 H3 ∧ DN H3 m rows n Ls ∧ Tells n Ls E ∧ Und E ∧ NoTurn E ∧ H3 pa = some (.lst us) ∧ Paired (Pr H3) us acc ∧ acc.Nodup ∧ (∀ p ∈ acc, ¬ E p.1 p.2 ∧ tieE ties p.1 p.2) ∧ (∀ x y, E x y → tieE ties x y) ∧ (∀ F : Ar, TO E F → TO (tieE ties) fun x y => (x, y) ∈ acc ∨ F x y) ∧ ∀ p ∈ ties.take i, ¬ E p.1 p.2)
      ⟨none, none, none, none, none, Ls0, tieE ties, [], [], rfl, s12, D0.same sp, T0, U0, NT, upd_same, .nil, List.nodup_nil, (fun p h => nomatch h), fun x y h => h, fun F O => O.congr fun x y => ⟨.inr, fun h => h.elim (fun h => nomatch h) id⟩, fun p hp => nomatch hp⟩ (fun i σ H3 _ ⟨_, _, _, _, _, _, _, _, _, _, s3, _⟩ => SqT.of (s3 _ _ h2)) ?_ ?_
    · rintro i x σ H3 hx ⟨v4, v5, v6, v7, v8, Ls, E, us, acc, rfl, s3, D, T, U, N, hpa3, pacc, nda, offa, sub, ext, dn⟩
      obtain ⟨p, hp, tp, rfl, htp⟩ := pAtL pr hx
      obtain ⟨a, b⟩ := p
      have hpm := List.mem_of_getElem? hp
      have hb := hg.1 _ hpm
      dsimp only at hb
      have han : a < n := by omega
      have etk : ties.take (i + 1) = ties.take i ++ [(a, b)] := by rw [List.take_add_one, hp]; rfl
      refine ⟨tp, _, rfl, SqT.of (s3 _ _ htp), rfl, _, _, rfl, _, _, rfl, rfl, ?_⟩
      obtain ⟨da, hda, hra⟩ := D.row han
      refine ⟨_, rfl, _, rfl, _, rfl, _, _, _, .ref da, rfl, rfl, SqL.of D.top, atI_nat (j := a) (by rw [List.getElem?_map, hda]; rfl), da, _, rfl, .inl ⟨_, .inl (b : Int), .inl hra, rfl, rfl⟩, _, rfl, ?_⟩
      rw [ldK_has]
      refine ifD (fun c => ?_) (fun c => ?_)
      · have hE : E a b := (T.mem a b han).mp c
        refine ⟨_, rfl, _, rfl, _, rfl, by show 2 ≤ sizeLine; decide, fun tb htb => ?_⟩
        have x4 := same_laid (o := .tup [pI a, pI b]) htb
        refine ⟨m, rows, n, Ls, E, .ref tb, a, b, rfl, D.same x4, T, U, hn, ⟨tb, rfl, upd_same⟩, hE, fun d kvd es H5 s5 nd5 hd5 pk5 cw5 cls5 les5 => ?_⟩
        have s35 := x4.trans s5
        refine ⟨d, kvd, rfl, .inl hd5, fun pt bs hpt hk => ?_⟩
        have x6 := same_laid (o := .lst (bs.map V.ref)) hpt
        have s36 := s35.trans x6
        have pt3 : H3 pt = none := gone s35 hpt
        have pL := pMono persPr (sKt x6) (kv_prs pk5 hk)
        have hpt6 : (upd H5 pt (.lst (bs.map V.ref))) pt = some (.lst (bs.map V.ref)) := upd_same
        generalize (upd H5 pt (.lst (bs.map V.ref))) = H6 at x6 s36 pL hpt6
        have D6 := D.same s36
        have rpt : pt ∉ rows := fun hm => by
          obtain ⟨i, hi⟩ := List.getElem?_of_mem hm
          rw [D.at_ i pt hi] at pt3
          cases pt3
        have ppt : pa ≠ pt := fun e => by rw [e, pt3] at hpa3; cases hpa3
        have ndL := cw5.nd
        have cL : ∀ q, q ∈ es.map (·.1) ↔ Cls E a b q.1 q.2 := cls5
        have lL : (es.map (·.1)).length ≤ 1600 := by rw [List.length_map]; exact les5
        generalize (es.map (·.1)) = L at pL ndL cL lL
        have turn : ∀ {x y}, Cls E a b x y → ¬ Cls E a b y x := fun h g => N _ _ h.arr ((h.symm U).trans g)
        refine ⟨_, rfl, pt, rfl, ⟨_, SqL.of hpt6⟩, for_list (K := K) (a := pt) (xs := bs.map V.ref) (fun j σ H7 => ∃ (v7 v8 : Option V) (Lj : Nat → List Nat), σ = [some (.ref t0), some .non, some (.ref m), some (.ref pa), some (pI a), some (pI b), some (.ref pt), v7, v8] ∧ Out rows H6 H7 ∧ DN H7 m rows n Lj ∧ Tells n Lj fun x y => E x y ∧ (x, y) ∉ L.take j ∧ (y, x) ∉ L.take j)
          ⟨v7, v8, Ls, rfl, Out.refl _ _, D6, ⟨fun x y hx => (T.mem x y hx).trans ⟨fun h => ⟨h, (fun h => nomatch h), fun h => nomatch h⟩, fun h => h.1⟩, T.nd, fun x y h => T.lt x y h.1⟩⟩ (fun j σ H7 _ ⟨_, _, _, _, o, _⟩ => SqL.of (o _ _ hpt6 rpt)) ?_ ?_⟩
        · rintro j x σ H7 hx ⟨v7, v8, Lj, rfl, o7, D7, T7⟩
          obtain ⟨⟨x, y⟩, hq, tq, rfl, htq⟩ := pAtL pL hx
          have hqm := List.mem_of_getElem? hq
          have hcl := (cL _).mp hqm
          dsimp only at hcl
          have hxy := T.lt x y hcl.arr
          have hne : x ≠ y := fun e => by subst e; exact U.ir hcl.arr
          have tk : L.take (j + 1) = L.take j ++ [(x, y)] := by rw [List.take_add_one, hq]; rfl
          have n1 : (x, y) ∉ L.take j := fun h => by
            obtain ⟨j2, hj2⟩ := List.getElem?_of_mem h
            rw [List.getElem?_take] at hj2
            split at hj2
            · have := (List.getElem?_inj (List.getElem?_eq_some_iff.mp hj2).1 ndL).mp (hj2.trans hq.symm)
              omega
            · cases hj2
          have n2 : (y, x) ∉ L.take j := fun h => turn hcl ((cL _).mp (List.mem_of_mem_take h))
          have htq7 : H7 tq = some (.tup [pI x, pI y]) := o7 _ _ htq fun hm => by
            obtain ⟨i, hi⟩ := List.getElem?_of_mem hm
            rw [D6.at_ i tq hi] at htq
            cases htq
          have my : y ∈ Lj x := (T7.mem x y hxy.1).mpr ⟨hcl.arr, n1, n2⟩
          have mx : x ∈ Lj y := (T7.mem y x hxy.2).mpr ⟨U.sy hcl.arr, n2, n1⟩
          refine ⟨tq, _, rfl, SqT.of htq7, rfl, _, _, rfl, _, _, rfl, rfl, ?_⟩
          obtain ⟨dx, hdx, hrx⟩ := D7.row hxy.1
          obtain ⟨D8, o8⟩ := D7.put hdx (remL (Lj x) y)
          refine ⟨_, rfl, _, rfl, _, _, _, .ref dx, rfl, rfl, SqL.of D7.top, atI_nat (j := x) (by rw [List.getElem?_map, hdx]; rfl), _, rfl, dx, _, .inl (y : Int), rfl, hrx, rfl, by rw [ldK_has]; exact decide_eq_true my, ?_⟩
          rw [ldK_drop]
          obtain ⟨dy, hdy, hry⟩ := D8.row hxy.2
          rw [if_neg (fun e => hne e.symm)] at hry
          obtain ⟨D9, o9⟩ := D8.put hdy (remL (Lj y) x)
          refine ⟨_, rfl, _, rfl, _, _, _, .ref dy, rfl, rfl, SqL.of D8.top, atI_nat (j := y) (by rw [List.getElem?_map, hdy]; rfl), _, rfl, dy, _, .inl (x : Int), rfl, hry, rfl, by rw [ldK_has]; exact decide_eq_true mx, ?_⟩
          rw [ldK_drop]
          refine ⟨_, _, _, rfl, o7.trans (o8.trans o9), D9, ⟨fun u w hu => ?_, fun u hu => ?_, fun u w h => T.lt u w h.1⟩⟩
          · have base : (E u w ∧ (u, w) ∉ L.take (j + 1) ∧ (w, u) ∉ L.take (j + 1)) ↔ w ∈ Lj u ∧ ¬ (u = x ∧ w = y) ∧ ¬ (u = y ∧ w = x) := by
              rw [T7.mem u w hu, tk, List.mem_append, List.mem_append, List.mem_singleton, List.mem_singleton, Prod.ext_iff, Prod.ext_iff]
              dsimp only
              constructor
              · rintro ⟨h1, h2, h3⟩
                exact ⟨⟨h1, fun h => h2 (.inl h), fun h => h3 (.inl h)⟩, fun h => h2 (.inr h), fun h => h3 (.inr ⟨h.2, h.1⟩)⟩
              · rintro ⟨⟨h1, h2, h3⟩, h4, h5⟩
                exact ⟨h1, fun h => h.elim h2 h4, fun h => h.elim h3 fun h => h5 ⟨h.2, h.1⟩⟩
            rw [base]
            by_cases e2 : u = y
            · subst e2
              rw [if_pos rfl, remLW_mem]
              exact ⟨fun h => ⟨h.1, fun z => hne z.1.symm, fun z => h.2 z.2⟩, fun h => ⟨h.1, fun z => h.2.2 ⟨rfl, z⟩⟩⟩
            · rw [if_neg e2]
              by_cases e1 : u = x
              · subst e1
                rw [if_pos rfl, remLW_mem]
                exact ⟨fun h => ⟨h.1, fun z => h.2 z.2, fun z => e2 z.1⟩, fun h => ⟨h.1, fun z => h.2.1 ⟨rfl, z⟩⟩⟩
              · rw [if_neg e1]
                exact ⟨fun h => ⟨h, fun z => e1 z.1, fun z => e2 z.1⟩, fun h => h.1⟩
          · by_cases e2 : u = y
            · rw [if_pos e2]
              exact (T7.nd y hxy.2).filter _
            · rw [if_neg e2]
              by_cases e1 : u = x
              · rw [if_pos e1]
                exact (T7.nd x hxy.1).filter _
              · rw [if_neg e1]
                exact T7.nd u hu
        · rintro σ H7 ⟨v7, v8, Lj, rfl, o7, D7, T7⟩
          rw [pL.length, List.take_length] at T7
          have T8 : Tells n Lj (cutA E a b) := ⟨fun x y hx => (T7.mem x y hx).trans (by rw [cL, cL]; exact Iff.rfl), T7.nd, fun x y h => T.lt x y h.1⟩
          have hnew6 : ∀ r ∈ rows, H1 r = none := hnew
          have s17 : Same H1 H7 := Out.same (s3.trans s36) hnew o7
          have hpa7 : H7 pa = some (.lst us) := o7 _ _ (s36 _ _ hpa3) rpa
          have hpt7 : H7 pt = some (.lst (bs.map V.ref)) := o7 _ _ hpt6 rpt
          have k67 : KeepT H6 H7 := fun a ys h => o7 _ _ h fun hm => by
            obtain ⟨i, hi⟩ := List.getElem?_of_mem hm
            rw [D6.at_ i a hi] at h
            cases h
          have ll : L.length = bs.length := by have := pL.length; rw [List.length_map] at this; exact this.symm
          have lacc : acc.length ≤ n * n := by
            refine Nat.le_trans (sub_len acc (square n) nda fun p hp => mem_square ?_) (square_len n)
            exact tieE_lt hg (offa p hp).2
          have lus := pacc.length
          refine ⟨_, rfl, .inl ⟨rfl, _, SqL.of hpa7⟩, _, rfl, pa, pt, us, bs.map V.ref, rfl, rfl, hpa7, hpt7, ?_, ?_⟩
          · rw [List.length_map]
            exact Nat.le_of_lt (sizeBig (by omega))
          have k78 : KeepT H7 (upd H7 pa (.lst (us ++ bs.map V.ref))) := KeepT.lst hpa7
          have k38 := ((sKt s36).trans k67).trans k78
          refine ⟨_, _, _, _, _, Lj, cutA E a b, us ++ bs.map V.ref, acc ++ L, rfl, sPut s17 n1pa, ⟨by rw [upd_ne mpa.symm]; exact D7.top, D7.len, D7.nd, fun i r hr => by rw [upd_ne (fun e => rpa (by rw [← e]; exact List.mem_of_getElem? hr))]; exact D7.at_ i r hr⟩, T8, cutA_und U a b, cut_turn U N a b, upd_same, pApp (pMono persPr k38 pacc) (pMono persPr (k67.trans k78) pL), ?_, fun p hp => ?_, fun x y h => sub x y h.1, fun F O => ?_, fun p hp => ?_⟩
          · exact List.nodup_append.mpr ⟨nda, ndL, fun x hx y hy e => (offa x hx).1 (by rw [e]; exact ((cL y).mp hy).arr)⟩
          · rcases List.mem_append.mp hp with hp | hp
            · exact ⟨fun h => (offa p hp).1 h.1, (offa p hp).2⟩
            · have := (cL p).mp hp
              exact ⟨fun h => h.2.1 this, sub _ _ this.arr⟩
          · refine (ext _ (to_add U N O)).congr fun x y => ?_
            rw [List.mem_append, cL (x, y)]
            exact ⟨fun h => h.elim (fun h => .inl (.inl h)) fun h => h.elim (fun h => .inl (.inr h)) .inr, fun h => h.elim (fun h => h.elim .inl fun h => .inr (.inl h)) fun h => .inr (.inr h)⟩
          · rw [etk] at hp
            rcases List.mem_append.mp hp with hp | hp
            · exact fun h => dn p hp h.1
            · rw [List.mem_singleton.mp hp]
              exact fun h => h.2.1 (.self hE)
      · refine ⟨_, _, _, _, _, Ls, E, us, acc, rfl, s3, D, T, U, N, hpa3, pacc, nda, offa, sub, ext, fun p hp => ?_⟩
        rw [etk] at hp
        rcases List.mem_append.mp hp with hp | hp
        · exact dn p hp
        · rw [List.mem_singleton.mp hp]
          exact fun h => c ((T.mem a b han).mpr h)
    · rintro σ H3 ⟨v4, v5, v6, v7, v8, Ls, E, us, acc, rfl, s3, D, T, U, N, hpa3, pacc, nda, offa, sub, ext, dn⟩
      rw [pr.length, List.take_length] at dn
      have none_ : ∀ x y, ¬ E x y := fun x y h => by
        have h2 : (x, y) ∈ ties ∨ (y, x) ∈ ties := of_decide_eq_true (sub x y h)
        rcases h2 with h2 | h2
        · exact dn _ h2 h
        · exact dn _ h2 (U.sy h)
      have O := ext (fun _ _ => False) ⟨fun h => h.elim, fun h => absurd h (none_ _ _), fun h => h.elim, fun h => h.elim⟩
      have lacc : acc.length ≤ n * n := by
        refine Nat.le_trans (sub_len acc (square n) nda fun p hp => mem_square ?_) (square_len n)
        exact tieE_lt hg (offa p hp).2
      refine ⟨_, rfl, pa, us, acc, rfl, .inl (SqL.of hpa3), pacc, fun ws ys p5 pm so pr5 hp5 => ?_⟩
      have x4 := same_laid (o := .lst ws) hp5
      refine ⟨p5, ws, rfl, .inl ⟨SqL.of upd_same, fun t5 ht5 => ⟨by show 2 ≤ sizeLine; decide, fun t6 ht6 => ?_⟩⟩⟩
      have x5 := same_laid (o := .tup ws) ht5
      have x6 := same_laid (o := .tup [.bl true, .ref t5]) ht6
      have ndy : ys.Nodup := pm.nodup_iff.mpr nda
      refine q t6 _ ((s1.trans s3).trans ((x4.trans x5).trans x6)) ⟨t5, ws, ys, x6 _ _ upd_same, pMono persPr (sKt ((x4.trans x5).trans x6)) pr5, by rw [pm.length_eq]; omega, .inl ⟨upd_same, ?_, ?_⟩⟩
      · exact (so.and ndy).imp fun {a b} h => by
          obtain ⟨h1, h2⟩ := h
          unfold ltP at h1 ⊢
          have : ¬ (a.1 = b.1 ∧ a.2 = b.2) := fun e => h2 (Prod.ext e.1 e.2)
          omega
      · exact O.congr fun x y => ⟨fun h => pm.mem_iff.mpr (h.elim id fun h => h.elim), fun h => .inl (pm.mem_iff.mp h)⟩
end
end Ns

/-! Own layer Dc: a name is given a dict by a comprehension. -/
namespace Ns
open PySem PySem.Spec PyProof.Rows L2
section
variable {X : Cx}
theorem sw_trueD {kx vx : Expr} {gs : List Comprehension} {scope : Scope} {pos py : Pos} {y : Str} {l : Nat} {env : Env} (hk : env.scope.kind = .function) (hy : env.scope.names.lookup y = some .local) (hl : (py.line == pos.line) = true)
    (ha : (scope.names.any fun (n, k) => n == y && (k == .local || k == .cell)) = false) : swapsWith (.DictComp kx vx gs scope pos) (some (.Name y py)) l env = pure true := by
  have ky : env.kindOf y = some .local := hy
  have hb : env.blockKind = .function := by unfold Env.blockKind; rw [hk]; rfl
  unfold swapsWith
  simp only [hb, ky, ha, Expr.pos, hl]
  rfl
theorem ps_setDc {i : Nat} {y : Str} {py : Pos} {kx vx tg iter : Expr} {ifs : List Expr} {scope : Scope} {own : List (Str × Nat)} {pos spos : Pos} {wi : TI} {g : TG} {tt : TT} {tk tv : TE} (hc : X.calm = true) (hN : X.N.Nodup) (hy : X.N[i]? = some y) (hyl : X.env.scope.names.lookup y = some .local)
    (hsw : swapsWith (.DictComp kx vx [⟨tg, iter, ifs, 0⟩] scope pos) (some (.Name y py)) spos.line X.env = pure true) (hi : PI X tg iter wi) (ok : BlkOk X.N X.env.scope scope own)
    (hg : ∀ (s : Shared) (H : Hp) (C : Addr) (cl : List (Str × Addr)) (fp : List Addr), PG (X.blk s H scope (compEnvC scope cl C X.env) fp) tg g) (ht : ∀ (s : Shared) (H : Hp) (C : Addr) (cl : List (Str × Addr)) (fp : List Addr), PTs (X.blk s H scope (compEnvC scope cl C X.env) fp) ifs tt)
    (hk : ∀ (s : Shared) (H : Hp) (C : Addr) (cl : List (Str × Addr)) (fp : List Addr), PE (X.blk s H scope (compEnvC scope cl C X.env) fp) kx tk)
    (he : ∀ (s : Shared) (H : Hp) (C : Addr) (cl : List (Str × Addr)) (fp : List Addr), PE (X.blk s H scope (compEnvC scope cl C X.env) fp) vx tv) (hs : ∀ x, foldedSetIterable iter X.env x = pure x := by intro _; rfl) :
    PS X (.Assign [.Name y py] (.DictComp kx vx [⟨tg, iter, ifs, 0⟩] scope pos) spos) (tAsg (tDc wi g tt tk tv (own.map (·.2))) (gName i)) := by
  refine ⟨fun pins s σ H D I h => ?_⟩
  rw [exec_Assign_Name_used _ _ _ _ hsw]
  refine wpAny_bind (wpAny_standAt (wpAny_bind ?_))
  show wpAny _ X.A (do let _ ← comprehension (.DictComp kx vx [⟨tg, iter, ifs, 0⟩] scope pos) scope X.env (firstIterPos [⟨tg, iter, ifs, 0⟩] pos) newDict false (eval iter X.env) (some (assign (.Name y py) X.env))) _ _ s
  have h : tDc wi g tt tk tv (own.map (·.2)) σ H (fun x H1 => gName i x σ H1 D.nx) := h
  refine wpAny_bind (thn (dc_core (Qf := fun _ s' => SP X pins D .next s') hc hN I hi ok hg ht hk he hs h fun L C s' m H' I' q hn f => ?_) fun _ s' hq => wpAny_pure (wpAny_pure hq))
  show wpAny _ _ (assign (.Name y py) X.env (.ref L)) _ _ _
  refine wpAny_assign_Name (store_ok2 (v := V.ref L) I' hN hy (.inl hyl) rfl (fun s2 I2 ⟨a, sb, ha⟩ => ?_) (.inr hyl))
  obtain ⟨f0, f1, f2, f3, f4, f5⟩ := f
  have haC : C ≠ a := by
    rcases ha with z | z
    · rw [z]; exact f1
    · exact fun e => f4 y a z e.symm
  refine ⟨m, hn.sameBut sb haC, fun h3 sb3 => ?_⟩
  exact ⟨_, H', I2.turned (t' := s2.toks) (fun b o hb e => (sb3.2 b hb).trans e) f0 f1 f3 f4 f5, q⟩
end
end Ns

/-! Own layer Dt: dict comprehensions whose keys are tuples. -/
namespace Ns
open PySem PySem.Spec PyProof.Rows L2
/-- a dict takes a key that is a tuple -/
theorem dT_take {X : Cx} {pins : List (Addr × Obj)} {σ : L2.St} {H : Hp} {s : Shared} {E : Value → Shared → Prop} {d q : Addr} {kvs : (List (List Key × V))} {k : List Key} {v : V} {r : Value} {Q : Unit → Shared → Prop} (hu : X.A.units < cLine) (J : Inv X pins σ H s)
    (h1 : H d = some (.dT kvs)) (h2 : H q = some (.tup (k.map kV))) (h3 : kvs.length < sizeLine) (rv : RelV v r) (h : ∀ s', Inv X pins σ (upd H d (.dT (putK kvs k v))) s' → Q () s') : wpAny (model X.prog X.w) X.A (dictSet d (.ref q) r) Q E s := by
  obtain ⟨z, lo, xs, rel, dd⟩ := dt_of J.hok h1
  have hp := length_putK kvs k v
  refine wpAny_dictSet_heap (hsz := by rw [← Paired.length rel]; exact z) (knd := tupleKind (mixKind X.prog X.w)) hu (key_of J.hok h2) dd fun h' dd' sb => h _ ?_
  obtain ⟨ob, es, ep, g1, g2, g3, g4, _, g5⟩ := dd'
  refine d_write J (by rw [h1]; exact True.intro) sb ⟨ob, g1⟩ ⟨by omega, lo, _, (rel.put k h2 rv).keeps fun c ys ec => ?_, ob, es, ep, g1, g2, g3, g4, g5⟩
  rw [upd_ne (ne_of ec h1 (fun z => nomatch z))]
  exact ec
/-- {k: v for target in iter if ..}, each key a tuple: D the new dict -/
def tDcT (wi : TI) (g : TG) (tt : TT) (tk tv : TE) (vs : List Nat) : TE := fun σ H Q => wi σ H fun J H1 => ∀ D, H1 D = none → ∃ W : Nat → Nat → Hp → Prop, (∃ m, W 0 m (upd H1 D (.dT []))) ∧ ∀ i m H, W i m H →
  (J.stop i H ∧ Q (.ref D) H) ∨ (J.go i H ∧ ∃ Nx : Hp → Prop, (∀ H', Nx H' → ∃ m', m' < m ∧ W (i + 1) m' H') ∧ ∀ x H', J.yld i H x H' → g x (wipe σ vs) H' fun σ2 H2 => wipe σ2 vs = wipe σ vs ∧ tt σ2 H2 fun b H3 =>
    if b = true then tk σ2 H3 fun y H4 => tv σ2 H4 fun z H5 => ∃ (kvs : (List (List Key × V))) (k : List Key) (q : Addr), y = .ref q ∧ H5 q = some (.tup (k.map kV)) ∧ H5 D = some (.dT kvs) ∧ kvs.length < sizeLine ∧ Nx (upd H5 D (.dT (putK kvs k z))) else Nx H3)
section
variable {X : Cx}
/-- how a comprehension's own block sees what it is made of -/
structure Parts (X : Cx) (scope : Scope) (tg kx vx : Expr) (ifs : List Expr) (g : TG) (tt : TT) (tk tv : TE) : Prop where
  aim : ∀ (s : Shared) (H : Hp) (C : Addr) (cl : List (Str × Addr)) (fs : List Addr), PG (X.blk s H scope (compEnvC scope cl C X.env) fs) tg g
  test : ∀ (s : Shared) (H : Hp) (C : Addr) (cl : List (Str × Addr)) (fs : List Addr), PTs (X.blk s H scope (compEnvC scope cl C X.env) fs) ifs tt
  key : ∀ (s : Shared) (H : Hp) (C : Addr) (cl : List (Str × Addr)) (fs : List Addr), PE (X.blk s H scope (compEnvC scope cl C X.env) fs) kx tk
  val : ∀ (s : Shared) (H : Hp) (C : Addr) (cl : List (Str × Addr)) (fs : List Addr), PE (X.blk s H scope (compEnvC scope cl C X.env) fs) vx tv
theorem dcT_core {pins : List (Addr × Obj)} {s : Shared} {σ : L2.St} {H : Hp} {Q : VK} {kx vx tg iter : Expr} {ifs : List Expr} {scope : Scope} {own : List (Str × Nat)} {pos pos' : Pos} {wi : TI} {g : TG} {tt : TT} {tk tv : TE} {use : Option (Value → Sem Unit)} {Qf : Value → Shared → Prop}
    (hu : X.A.units < cLine) (calm : X.calm = true) (uniq : X.N.Nodup) (I : Inv X pins σ H s) (hit : PI X tg iter wi) (blk : BlkOk X.N X.env.scope scope own) (parts : Parts X scope tg kx vx ifs g tt tk tv) (fold : ∀ x, foldedSetIterable iter X.env x = pure x)
    (read : tDcT wi g tt tk tv (own.map (·.2)) σ H Q)
    (after : ∀ D C s' m H', Inv X pins σ H' s' → Q (.ref D) H' → s'.heap.Ns C m → FpOk X pins H' C → compPost (model X.prog X.w) X.A X.xe use Qf (.ref D) C (.ok .next) s') :
    wpAny (model X.prog X.w) X.A (comprehension (.DictComp kx vx [⟨tg, iter, ifs, 0⟩] scope pos) scope X.env pos' newDict false (eval iter X.env) use) Qf X.xe s := by
  have clo : ∀ nm ∈ scope.names, nm.2 = .free → ∃ c, X.env.cells.lookup nm.1 = some c := fun nm hn fr => (blk.free nm hn fr).elim (fun l => I.ok.has _ (.inl l)) fun l => I.ok.has _ (.inr l)
  refine wpAny_comprehension_free (use := use) rfl fold (closure_ok clo) blk.kind (fun nm hn loc => by rw [blk.uniq nm hn, loc])
    (thn (hit.run pins s σ H _ I read) fun xv sa ha => thn ha fun itv sb ⟨it, fs, tn, J, Hb, eit, Ib, Tu, stb, fpb, rest⟩ => ?_)
  subst eit
  refine wpAny_newObj_type (newEnv_comp ?_)
  generalize eD : sb.heap.objs.size = D
  obtain ⟨W, ⟨m1, w1⟩, turn⟩ := rest D (Ib.hok.fresh (Nat.le_of_eq eD))
  generalize ec : ({ sb with heap := sb.heap.push { cls := .type "dict", data := .dict #[] } } : Shared) = sc
  have hc : sc.heap = sb.heap.push { cls := .type "dict", data := .dict #[] } := by rw [← ec]
  have Ic : Inv X pins σ (upd Hb D (.dT [])) sc := by
    rw [← ec]
    refine Ib.laid (t' := sb.toks) (fun _ _ a => Heap.get?_push_of_some _ a) (Nat.le_of_eq eD) ?_
    rw [← eD]
    exact dt_empty sb.heap Ib.big
  have fpc : ∀ a ∈ fs, FpOk X pins (upd Hb D (.dT [])) a ∧ a < sc.heap.objs.size := fun a ha => by
    obtain ⟨ob, eo, _⟩ := Tu.obj _ _ stb a ha
    have lt := Heap.lt_size eo
    refine ⟨⟨?_, (fpb a ha).2⟩, by rw [hc, Heap.size_push]; exact Nat.lt_succ_of_lt lt⟩
    rw [upd_ne (by rw [← eD]; exact Nat.ne_of_lt lt)]
    exact (fpb a ha).1
  have stc : tn 0 sc.heap := Tu.keep _ _ _ stb fun a _ ob eo => by rw [hc]; exact Heap.get?_push_of_some _ eo
  have Id := block_start Ic blk uniq fpc
  have pAim := parts.aim sc (upd Hb D (.dT [])) sc.heap.objs.size (cellsFrom (sc.heap.objs.size + 1) scope.names (cloFrom X.env.cells scope.names [])) fs
  have pTest := parts.test sc (upd Hb D (.dT [])) sc.heap.objs.size (cellsFrom (sc.heap.objs.size + 1) scope.names (cloFrom X.env.cells scope.names [])) fs
  have pKey := parts.key sc (upd Hb D (.dT [])) sc.heap.objs.size (cellsFrom (sc.heap.objs.size + 1) scope.names (cloFrom X.env.cells scope.names [])) fs
  have pVal := parts.val sc (upd Hb D (.dT [])) sc.heap.objs.size (cellsFrom (sc.heap.objs.size + 1) scope.names (cloFrom X.env.cells scope.names [])) fs
  show codeAny _ _ (.compStart (.DictComp kx vx [⟨tg, iter, ifs, 0⟩] scope pos) 0 (.ref it) (.ref D) (compEnvC scope (cellsFrom (sc.heap.objs.size + 1) scope.names (cloFrom X.env.cells scope.names [])) sc.heap.objs.size X.env)) (compPost (model X.prog X.w) X.A X.xe use Qf (.ref D) sc.heap.objs.size) { sc with heap := pushCells (sc.heap.push { cls := .type "dict", data := .dict #[] }) scope.names }
  have off : ∀ a ∈ fs, (upd Hb D (.dT [])) a = none := fun a ha => (fpc a ha).1.1
  generalize en : compEnvC scope (cellsFrom (sc.heap.objs.size + 1) scope.names (cloFrom X.env.cells scope.names [])) sc.heap.objs.size X.env = cn at Id pAim pTest pKey pVal ⊢
  have locN : cn.locals = sc.heap.objs.size := by subst en; rfl
  generalize upd Hb D (.dT []) = Hc at Ic Id pAim pTest pKey pVal w1 off fpc
  generalize ed : ({ sc with heap := pushCells (sc.heap.push { cls := .type "dict", data := .dict #[] }) scope.names } : Shared) = sd at Id ⊢
  have std : tn 0 sd.heap := Tu.keep _ _ _ stc fun a _ ob eo => by rw [← ed]; exact pushCells_keeps _ _ _ _ (Heap.get?_push_of_some _ eo)
  have still : ∀ {τ : L2.St} {G : Hp} {sx : Shared}, Inv (X.blk sc Hc scope cn fs) [] τ G sx → (∀ a ∈ fs, G a = none) → ∀ a ∈ fs, FpOk (X.blk sc Hc scope cn fs) [] G a := fun {τ G sx} Ix hn a ha =>
    ⟨hn a ha, (Ix.ok.exf a ha).1, Ix.ok.exfs a ha, .inl ha, fun q c eq => (Ix.ok.exf a ha).2 q c eq, fun q hq => absurd (show q ∈ ([] : List (Addr × Obj)) ++ [] from hq) (by simp)⟩
  have round : codeAny (model X.prog X.w) X.A (.compLoop (.DictComp kx vx [⟨tg, iter, ifs, 0⟩] scope pos) 0 (.ref it) (.ref D) cn) (compPost (model X.prog X.w) X.A X.xe use Qf (.ref D) sc.heap.objs.size) sd := by
    refine compLoop_anyD (fun n sx => ∃ i G, Inv (X.blk sc Hc scope cn fs) [] (wipe σ (own.map (·.2))) G sx ∧ tn i sx.heap ∧ (∀ a ∈ fs, G a = none) ∧ W i n G) ?_ m1 ⟨0, Hc, Id, std, off, w1⟩
    rintro n se ⟨i, G, Ie, ste, offe, we⟩
    rcases turn i n G we with ⟨stop, qq⟩ | ⟨go, Nx, hNx, step⟩
    · refine thnF (Tu.done (X.blk sc Hc scope cn fs) rfl rfl rfl calm i [] se _ G (fun _ _ => False) Ie (still Ie offe) ste stop) fun r sf ⟨er, If⟩ => ?_
      subst er
      have Ig : Inv X pins σ G sf := Ic.call' (ch := fs) If.os If.base If.hok If.bare fun a ha => ⟨(fpc a ha).1.2.2.2.1, (fpc a ha).1.2.1, (fpc a ha).1.2.2.2.2.1, (fpc a ha).1.2.2.2.2.2⟩
      have free : G cn.locals = none := If.free
      obtain ⟨m, ns, _⟩ := If.loc
      have ns : sf.heap.Ns cn.locals m := ns
      rw [locN] at ns free
      exact after D sc.heap.objs.size sf m G Ig qq ns (Ic.fpOk (Nat.le_refl _) free)
    · refine thnF (Tu.item (X.blk sc Hc scope cn fs) rfl rfl rfl calm i [] se _ G (fun _ _ => False) Ie (still Ie offe) ste go) fun r sf ⟨u, er, hf⟩ => ?_
      subst er
      refine thnF hf fun _ sg ⟨x, Gg, Ig, rg, yg, stg, ng⟩ => ?_
      refine thnF (pAim.run _ sg _ Gg x u _ (Ig.pinned (still Ig ng) (Tu.obj _ _ stg)) rg (step x Gg yg)) fun _ sh ⟨τ, Gh, Ih, wh, qh⟩ => ?_
      refine thnF (pTest.run _ sh τ Gh _ Ih qh) fun ans sj ⟨Gj, Ij, qj⟩ => ?_
      have onward : ∀ {sx : Shared} {G' : Hp}, Inv (X.blk sc Hc scope cn fs) ([] ++ pinsAt fs sg.heap) τ G' sx → Nx G' → ∃ m, m < n ∧ ∃ i G, Inv (X.blk sc Hc scope cn fs) [] (wipe σ (own.map (·.2))) G sx ∧ tn i sx.heap ∧ (∀ a ∈ fs, G a = none) ∧ W i m G := fun {sx G'} Ix nx => by
        obtain ⟨m, lt, wn⟩ := hNx G' nx
        have held : ∀ a ∈ fs, ∀ ob, sg.heap.get? a = some ob → sx.heap.get? a = some ob ∧ G' a = none := fun a ha ob eo => by
          have z := Ix.pin (a, ob) (List.mem_append_right _ (List.mem_append_right _ (mem_pinsAt ha eo)))
          exact ⟨z.1, z.2.1⟩
        refine ⟨m, lt, i + 1, G', (Ix.unpinned (pins := [])).weak (by rw [← wh, wipe_length]) (fun j v ej => ?_), Tu.keep _ _ _ stg fun a ha ob eo => (held a ha ob eo).1, fun a ha => ?_, wn⟩
        · rw [← wh] at ej
          exact (wipe_some ej).1
        · obtain ⟨ob, eo, _⟩ := Tu.obj _ _ stg a ha
          exact (held a ha ob eo).2
      cases ans with
      | false =>
        rw [if_neg Bool.false_ne_true] at qj ⊢
        exact onward Ij qj
      | true =>
        rw [if_pos rfl] at qj ⊢
        refine thnF (pKey.run _ sj τ Gj _ Ij qj) fun kv sk ⟨yk, Gk, Ik, rk, qk⟩ => ?_
        refine thnF (pVal.run _ sk τ Gk _ Ik qk) fun vv sl ⟨yv, Gl, Il, rl, kvs, k, q, eq, hq, hD, hz, nx⟩ => ?_
        subst eq
        obtain rfl : kv = Value.ref q := rk
        exact dT_take (X := X.blk sc Hc scope cn fs) hu Il hD hq hz rl fun sm Im => onward Im nx
  exact codeAny_compStart_dict round (Tu.self X.A 0 _ _ _ std round)
/-- as a value -/
theorem pe_dcT {kx vx tg iter : Expr} {ifs : List Expr} {scope : Scope} {own : List (Str × Nat)} {pos : Pos} {wi : TI} {g : TG} {tt : TT} {tk tv : TE} (hu : X.A.units < cLine) (calm : X.calm = true) (uniq : X.N.Nodup) (hit : PI X tg iter wi) (blk : BlkOk X.N X.env.scope scope own)
    (parts : Parts X scope tg kx vx ifs g tt tk tv) (fold : ∀ x, foldedSetIterable iter X.env x = pure x := by intro _; rfl) : PE X (.DictComp kx vx [⟨tg, iter, ifs, 0⟩] scope pos) (tDcT wi g tt tk tv (own.map (·.2))) := by
  refine ⟨fun pins s σ H Q I h => ?_⟩
  rw [arm_eval_DictComp]
  exact dcT_core hu calm uniq I hit blk parts fold h fun D C s' m H' I' q hn ⟨f0, f1, f2, f3, f4, f5⟩ => ⟨m, hn, fun h2 sb => ⟨.ref D, H', I'.turned (t' := s'.toks) (fun b o hb e => (sb.2 b hb).trans e) f0 f1 f3 f4 f5, rfl, q⟩⟩
theorem ps_setDcT {i : Nat} {y : Str} {py : Pos} {kx vx tg iter : Expr} {ifs : List Expr} {scope : Scope} {own : List (Str × Nat)} {pos spos : Pos} {wi : TI} {g : TG} {tt : TT} {tk tv : TE} (hu : X.A.units < cLine) (calm : X.calm = true) (uniq : X.N.Nodup) (hy : X.N[i]? = some y) (hyl : X.env.scope.names.lookup y = some .local)
    (hsw : swapsWith (.DictComp kx vx [⟨tg, iter, ifs, 0⟩] scope pos) (some (.Name y py)) spos.line X.env = pure true) (hit : PI X tg iter wi) (blk : BlkOk X.N X.env.scope scope own) (parts : Parts X scope tg kx vx ifs g tt tk tv) (fold : ∀ x, foldedSetIterable iter X.env x = pure x := by intro _; rfl) :
    PS X (.Assign [.Name y py] (.DictComp kx vx [⟨tg, iter, ifs, 0⟩] scope pos) spos) (tAsg (tDcT wi g tt tk tv (own.map (·.2))) (gName i)) := by
  refine ⟨fun pins s σ H D I h => ?_⟩
  rw [exec_Assign_Name_used _ _ _ _ hsw]
  refine wpAny_bind (wpAny_standAt (wpAny_bind ?_))
  show wpAny _ X.A (do let _ ← comprehension (.DictComp kx vx [⟨tg, iter, ifs, 0⟩] scope pos) scope X.env (firstIterPos [⟨tg, iter, ifs, 0⟩] pos) newDict false (eval iter X.env) (some (assign (.Name y py) X.env))) _ _ s
  have h : tDcT wi g tt tk tv (own.map (·.2)) σ H (fun x H1 => gName i x σ H1 D.nx) := h
  refine wpAny_bind (thn (dcT_core (Qf := fun _ s' => SP X pins D .next s') hu calm uniq I hit blk parts fold h fun L C s' m H' I' q hn f => ?_) fun _ s' hq => wpAny_pure (wpAny_pure hq))
  show wpAny _ _ (assign (.Name y py) X.env (.ref L)) _ _ _
  refine wpAny_assign_Name (store_ok2 (v := V.ref L) I' uniq hy (.inl hyl) rfl (fun s2 I2 ⟨a, sb, ha⟩ => ?_) (.inr hyl))
  obtain ⟨f0, f1, f2, f3, f4, f5⟩ := f
  have haC : C ≠ a := ha.elim (fun z => by rw [z]; exact f1) fun z e => f4 y a z e.symm
  exact ⟨m, hn.sameBut sb haC, fun h3 sb3 => ⟨_, H', I2.turned (t' := s2.toks) (fun b o hb e => (sb3.2 b hb).trans e) f0 f1 f3 f4 f5, q⟩⟩
end
end Ns

/-! Own layer: stories and places of arrows, in plain Lean. -/
namespace Ns
open PySem PySem.Spec PyProof.Rows L2
theorem ltP_uniqA : ∀ {as bs : List (Nat × Nat)}, as.Pairwise ltP → bs.Pairwise ltP → (∀ p, p ∈ as ↔ p ∈ bs) → as = bs
  | [], [], _, _, _ => rfl
  | [], b :: _, _, _, h => nomatch (h b).mpr (List.mem_cons_self ..)
  | a :: _, [], _, _, h => nomatch (h a).mp (List.mem_cons_self ..)
  | a :: as, b :: bs, ha, hb, h => by
    obtain ⟨a1, a2⟩ := List.pairwise_cons.mp ha
    obtain ⟨b1, b2⟩ := List.pairwise_cons.mp hb
    have irr : ∀ p : Nat × Nat, ¬ ltP p p := fun p hp => by unfold ltP at hp; omega
    have asym : ∀ p q : Nat × Nat, ltP p q → ltP q p → False := fun p q h1 h2 => by unfold ltP at h1 h2; omega
    have e : a = b := by
      rcases List.mem_cons.mp ((h a).mp (List.mem_cons_self ..)) with e | e
      · exact e
      · rcases List.mem_cons.mp ((h b).mpr (List.mem_cons_self ..)) with e2 | e2
        · exact e2.symm
        · exact (asym _ _ (a1 _ e2) (b1 _ e)).elim
    subst e
    rw [ltP_uniqA a2 b2 fun p => ⟨fun hp => ?_, fun hp => ?_⟩]
    · exact (List.mem_cons.mp ((h p).mp (List.mem_cons_of_mem _ hp))).resolve_left fun e => irr p (by have := a1 _ hp; rwa [← e] at this)
    · exact (List.mem_cons.mp ((h p).mpr (List.mem_cons_of_mem _ hp))).resolve_left fun e => irr p (by have := b1 _ hp; rwa [← e] at this)
/-- a story of arrows -/
def StoryA (ties R : List (Nat × Nat)) : Prop := R.Pairwise ltP ∧ TO (tieE ties) fun x y => (x, y) ∈ R
/-- a place of arrows -/
def PlaceA (ties R : List (Nat × Nat)) : Prop := ∃ a b, R[0]? = some (a, b) ∧ R.getLast? = some (b, a) ∧ ChainOk (tieE ties) R ∧ tieE ties a b
theorem StoryA.eq {ties R ys : List (Nat × Nat)} (x : StoryA ties R) (pm : ys.Perm R) (so : ys.Pairwise fun a b => ¬ ltP b a) : R = ys := by
  have ndR : R.Nodup := x.1.imp fun {a b} h e => by subst e; unfold ltP at h; omega
  have ndy : ys.Nodup := pm.nodup_iff.mpr ndR
  refine ltP_uniqA x.1 ((so.and ndy).imp fun {a b} h => ?_) fun p => pm.mem_iff.symm
  obtain ⟨h1, h2⟩ := h
  unfold ltP at h1 ⊢
  have : ¬ (a.1 = b.1 ∧ a.2 = b.2) := fun e => h2 (Prod.ext e.1 e.2)
  omega
def mmP (p : Nat × Nat) : Nat × Nat := (min p.1 p.2, max p.1 p.2)
theorem StoryA.ndR {ties R : List (Nat × Nat)} (x : StoryA ties R) : R.Nodup := x.1.imp fun {a b} h e => by subst e; unfold ltP at h; omega
theorem StoryA.mnd {ties R : List (Nat × Nat)} (x : StoryA ties R) : (R.map mmP).Nodup := by
  rw [List.Nodup, List.pairwise_map]
  refine List.Pairwise.imp_of_mem (fun {a b} ha hb ne e => ?_) x.ndR
  unfold mmP at e
  obtain ⟨e1, e2⟩ := Prod.mk.inj e
  by_cases c : a.1 = b.1
  · exact ne (Prod.ext c (by omega))
  · have f1 : a.1 = b.2 := by omega
    have f2 : a.2 = b.1 := by omega
    have hb2 : (a.2, a.1) ∈ R := by rw [f1, f2]; exact hb
    exact x.2.one (x := a.1) (y := a.2) ha hb2
theorem StoryA.mmem {n : Nat} {ties R : List (Nat × Nat)} (hg : Good n ties) (x : StoryA ties R) (p : Nat × Nat) : p ∈ R.map mmP ↔ p ∈ ties := by
  rw [List.mem_map]
  constructor
  · rintro ⟨r, hr, rfl⟩
    have hE : tieE ties r.1 r.2 := x.2.sub (x := r.1) (y := r.2) hr
    have h : (r.1, r.2) ∈ ties ∨ (r.2, r.1) ∈ ties := of_decide_eq_true hE
    unfold mmP
    rcases h with h | h
    · have := hg.1 _ h
      dsimp only at this
      rw [Nat.min_eq_left (by omega), Nat.max_eq_right (by omega)]
      exact h
    · have := hg.1 _ h
      dsimp only at this
      rw [Nat.min_eq_right (by omega), Nat.max_eq_left (by omega)]
      exact h
  · intro hp
    have hlt := (hg.1 p hp).1
    have hE : tieE ties p.1 p.2 := decide_eq_true (.inl hp)
    rcases x.2.all hE with h | h
    · refine ⟨(p.1, p.2), h, ?_⟩
      unfold mmP
      dsimp only
      rw [Nat.min_eq_left (by omega), Nat.max_eq_right (by omega)]
    · refine ⟨(p.2, p.1), h, ?_⟩
      unfold mmP
      dsimp only
      rw [Nat.min_eq_right (by omega), Nat.max_eq_left (by omega)]
theorem StoryA.len {n : Nat} {ties R : List (Nat × Nat)} (hg : Good n ties) (x : StoryA ties R) : R.length = ties.length := by
  have ndt : ties.Nodup := hg.2.imp fun {a b} h e => by subst e; unfold ltP at h; omega
  have h1 := sub_len (R.map mmP) ties x.mnd fun p hp => (x.mmem hg p).mp hp
  have h2 := sub_len ties (R.map mmP) ndt fun p hp => (x.mmem hg p).mpr hp
  rw [List.length_map] at h1 h2
  omega
theorem StoryA.mm {n : Nat} {ties R zs : List (Nat × Nat)} (hg : Good n ties) (x : StoryA ties R) (pm : zs.Perm (R.map mmP)) (so : zs.Pairwise fun a b => ¬ ltP b a) : zs = ties := by
  have ndz : zs.Nodup := pm.nodup_iff.mpr x.mnd
  refine ltP_uniqA ((so.and ndz).imp fun {a b} h => ?_) hg.2 fun p => pm.mem_iff.trans (x.mmem hg p)
  obtain ⟨h1, h2⟩ := h
  unfold ltP at h1 ⊢
  have : ¬ (a.1 = b.1 ∧ a.2 = b.2) := fun e => h2 (Prod.ext e.1 e.2)
  omega
theorem PlaceA.mm {n : Nat} {ties R zs : List (Nat × Nat)} (hg : Good n ties) (x : PlaceA ties R) (pm : zs.Perm (R.map mmP)) : zs ≠ ties := fun e => by
  obtain ⟨a, b, h1, h2, _, h4⟩ := x
  have ne : a ≠ b := fun e => by subst e; exact (tieE_und hg).ir h4
  have ndt : ties.Nodup := hg.2.imp fun {a b} h e => by subst e; unfold ltP at h; omega
  have nd : (R.map mmP).Nodup := pm.nodup_iff.mp (e ▸ ndt)
  rw [List.getLast?_eq_getElem?] at h2
  have k1 : (R.map mmP)[0]? = some (mmP (a, b)) := by rw [List.getElem?_map, h1]; rfl
  have k2 : (R.map mmP)[R.length - 1]? = some (mmP (a, b)) := by
    rw [List.getElem?_map, h2]
    unfold mmP
    dsimp only
    show some (min b a, max b a) = some (min a b, max a b)
    rw [Nat.min_comm, Nat.max_comm]
  have e3 := (List.getElem?_inj (List.getElem?_eq_some_iff.mp k1).1 nd).mp (k1.trans k2.symm)
  rw [← e3, h1] at h2
  have := (Prod.mk.inj (Option.some.inj h2)).1
  exact ne this
theorem mmP_int (p : Nat × Nat) : (if (p.2 : Int) < (p.1 : Int) then (p.2 : Int) else (p.1 : Int)) = (((mmP p).1 : Nat) : Int) ∧ (if (p.2 : Int) > (p.1 : Int) then (p.2 : Int) else (p.1 : Int)) = (((mmP p).2 : Nat) : Int) := by
  unfold mmP
  dsimp only
  constructor <;> split <;> omega
theorem place_arr {n : Nat} {ties R : List (Nat × Nat)} (x : PlaceA ties R) : ∀ p ∈ R, tieE ties p.1 p.2 := fun p hp => by
  obtain ⟨a, b, h1, _, h3, h4⟩ := x
  obtain ⟨k, hk⟩ := List.getElem?_of_mem hp
  cases k with
  | zero =>
    rw [h1] at hk
    rw [← Option.some.inj hk]
    exact h4
  | succ k =>
    have hkl := (List.getElem?_eq_some_iff.mp hk).1
    have := h3 k _ p (List.getElem?_eq_getElem (by omega)) hk
    cases p
    cases this <;> assumption
theorem place_two {n : Nat} {ties R : List (Nat × Nat)} (hg : Good n ties) (x : PlaceA ties R) : 2 ≤ R.length := by
  obtain ⟨a, b, h1, h2, _, h4⟩ := x
  have ne : a ≠ b := fun e => by subst e; exact (tieE_und hg).ir h4
  have hl := (List.getElem?_eq_some_iff.mp h1).1
  apply Decidable.byContradiction
  intro hn
  rw [List.getLast?_eq_getElem?, show R.length - 1 = 0 by omega, h1] at h2
  exact ne (Prod.mk.inj (Option.some.inj h2)).1
theorem to_keep {E F : Ar} (U : Und E) (O : TO E F) {a b x y : Nat} (h : Cls E a b x y) (hf : F a b) : F x y := by
  induction h with
  | self _ => exact hf
  | step _ f ih =>
    cases f with
    | head g1 g2 g3 g4 =>
      rcases O.all g2 with h | h
      · exact h
      · exact absurd (U.sy (O.sub (O.go h ih))) g3
    | tail g1 g2 g3 g4 =>
      rcases O.all g2 with h | h
      · exact h
      · exact absurd (O.sub (O.go ih h)) g3
theorem to_noturn {E F : Ar} (U : Und E) (O : TO E F) : NoTurn E := fun a b hab h => by
  rcases O.all hab with hf | hf
  · exact O.one hf (to_keep U O h hf)
  · exact O.one hf (to_keep U O (h.symm U) hf)
theorem toldA_iff {H : Hp} {n : Nat} {ties : List (Nat × Nat)} {t : Addr} (hg : Good n ties) (x : ToldA H n ties t) : ∃ (ans : Bool) (s : Addr) (us : List V) (R : List (Nat × Nat)), H t = some (.tup [.bl ans, .ref s]) ∧ H s = some (.tup us) ∧ Paired (Pr H) us R ∧ R.length ≤ 1600 ∧ (ans = true ↔ NoTurn (tieE ties)) ∧ (ans = true → StoryA ties R) ∧ (ans = false → PlaceA ties R) := by
  have U := tieE_und hg
  obtain ⟨s, us, R, hs, pR, lR, h | h⟩ := x
  · exact ⟨true, s, us, R, h.1, hs, pR, lR, iff_of_true rfl (to_noturn U h.2.2), fun _ => h.2, fun e => nomatch e⟩
  · obtain ⟨ht, a, b, r1, r2, r3, r4, r5⟩ := h
    exact ⟨false, s, us, R, ht, hs, pR, lR, iff_of_false Bool.false_ne_true fun N => N a b r4 r5, (fun e => nomatch e), fun _ => ⟨a, b, r1, r2, r3, r4⟩⟩
end Ns

/-! Own layer: lines out of arrows of a net and of its opposite, in plain Lean. -/
namespace Ns
open PySem PySem.Spec PyProof.Rows L2
/-- the pairs that are not tied -/
def coT (n : Nat) (ties : List (Nat × Nat)) : List (Nat × Nat) := (allPairs n).filter fun p => !tieT ties p.1 p.2
theorem coT_good (n : Nat) (ties : List (Nat × Nat)) : Good n (coT n ties) := Good.filter _
theorem coT_iff {n : Nat} {ties : List (Nat × Nat)} {a b : Nat} (ha : a < n) (hb : b < n) (ne : a ≠ b) : tieE (coT n ties) a b ↔ ¬ tieE ties a b := by
  have base : ∀ {x y}, x < y → y < n → ((x, y) ∈ coT n ties ↔ ¬ tieE ties x y) := fun {x y} h1 h2 => by
    unfold coT
    rw [List.mem_filter, mem_allPairs, Bool.not_eq_true']
    show (x < y ∧ y < n) ∧ tieT ties x y = false ↔ ¬ tieT ties x y = true
    rw [Bool.not_eq_true]
    exact ⟨fun h => h.2, fun h => ⟨⟨h1, h2⟩, h⟩⟩
  have one : ∀ {x y}, (x, y) ∈ coT n ties → x < y := fun h => ((coT_good n ties).1 _ h).1
  show decide ((a, b) ∈ coT n ties ∨ (b, a) ∈ coT n ties) = true ↔ _
  rw [decide_eq_true_eq]
  by_cases c : a < b
  · rw [base c hb]
    exact ⟨fun h => h.elim id fun h => by have := one h; omega, .inl⟩
  · have c : b < a := by omega
    rw [base c ha]
    have sw : tieE ties b a ↔ tieE ties a b := by show tieT ties b a = true ↔ tieT ties a b = true; rw [tieT_sym]
    rw [sw]
    exact ⟨fun h => h.elim (fun h => by have := one h; omega) id, .inr⟩
/-- an order of all points, told by pairs -/
structure LinL (n : Nat) (L : List (Nat × Nat)) : Prop where
  nd : L.Nodup
  lt : ∀ x y, (x, y) ∈ L → x < n ∧ y < n
  ir : ∀ x, (x, x) ∉ L
  tot : ∀ x y, x < n → y < n → x ≠ y → (x, y) ∈ L ∨ (y, x) ∈ L
  tr : ∀ x y z, (x, y) ∈ L → (y, z) ∈ L → (x, z) ∈ L
/-- how many arrows lead to a point -/
def rk (L : List (Nat × Nat)) (p : Nat) : Nat := (L.filter fun q => decide (q.2 = p)).length
def prd (L : List (Nat × Nat)) (p : Nat) : List Nat := (L.filter fun q => decide (q.2 = p)).map (·.1)
theorem prd_len (L : List (Nat × Nat)) (p : Nat) : (prd L p).length = rk L p := List.length_map ..
theorem mem_prd {L : List (Nat × Nat)} {p x : Nat} : x ∈ prd L p ↔ (x, p) ∈ L := by
  unfold prd
  rw [List.mem_map]
  constructor
  · rintro ⟨q, h, rfl⟩
    obtain ⟨h1, h2⟩ := List.mem_filter.mp h
    rw [← of_decide_eq_true h2]
    exact h1
  · exact fun h => ⟨(x, p), List.mem_filter.mpr ⟨h, decide_eq_true rfl⟩, rfl⟩
theorem prd_nd {L : List (Nat × Nat)} (nd : L.Nodup) (p : Nat) : (prd L p).Nodup := by
  unfold prd
  rw [List.Nodup, List.pairwise_map]
  refine List.Pairwise.imp_of_mem (fun {a b} ha hb ne e => ?_) (nd.filter _)
  have h1 := of_decide_eq_true (List.mem_filter.mp ha).2
  have h2 := of_decide_eq_true (List.mem_filter.mp hb).2
  exact ne (Prod.ext e (h1.trans h2.symm))
theorem LinL.rk_lt {n : Nat} {L : List (Nat × Nat)} (x : LinL n L) {a b : Nat} (h : (a, b) ∈ L) : rk L a < rk L b := by
  have nd : (a :: prd L a).Nodup := List.nodup_cons.mpr ⟨fun z => x.ir a (mem_prd.mp z), prd_nd x.nd a⟩
  have := sub_len (a :: prd L a) (prd L b) nd fun y hy => by
    rcases List.mem_cons.mp hy with e | e
    · rw [e]; exact mem_prd.mpr h
    · exact mem_prd.mpr (x.tr _ _ _ (mem_prd.mp e) h)
  rw [List.length_cons, prd_len, prd_len] at this
  omega
theorem LinL.rk_n {n : Nat} {L : List (Nat × Nat)} (x : LinL n L) {a : Nat} (h : a < n) : rk L a < n := by
  have nd : (a :: prd L a).Nodup := List.nodup_cons.mpr ⟨fun z => x.ir a (mem_prd.mp z), prd_nd x.nd a⟩
  have := sub_len (a :: prd L a) (List.range n) nd fun y hy => by
    rcases List.mem_cons.mp hy with e | e
    · rw [e]; exact List.mem_range.mpr h
    · exact List.mem_range.mpr (x.lt _ _ (mem_prd.mp e)).1
  rw [List.length_cons, prd_len, List.length_range] at this
  omega
theorem LinL.rk_iff {n : Nat} {L : List (Nat × Nat)} (x : LinL n L) {a b : Nat} (ha : a < n) (hb : b < n) (ne : a ≠ b) : rk L a < rk L b ↔ (a, b) ∈ L := by
  refine ⟨fun h => ?_, x.rk_lt⟩
  rcases x.tot a b ha hb ne with k | k
  · exact k
  · have := x.rk_lt k
    omega
theorem LinL.rk_inj {n : Nat} {L : List (Nat × Nat)} (x : LinL n L) {a b : Nat} (ha : a < n) (hb : b < n) (e : rk L a = rk L b) : a = b := by
  apply Decidable.byContradiction
  intro ne
  rcases x.tot a b ha hb ne with k | k
  · have := x.rk_lt k; omega
  · have := x.rk_lt k; omega
/-- a row in which each point stands at its place -/
def RowOk (n : Nat) (r : List Nat) (k : Nat → Nat) : Prop := r.length = n ∧ ∀ p, p < n → r[k p]? = some p
theorem nodup_rowN : ∀ {ns es : List Nat}, es.Nodup → (∀ x ∈ es, x ∈ ns) → es.length = ns.length → ns.Nodup
  | [], _, _, _, _ => List.nodup_nil
  | y :: r, es, nd, hs, hl => by
    rw [List.length_cons] at hl
    have hyr : y ∉ r := fun hy => by
      have := sub_len es r nd fun x hx => (List.mem_cons.mp (hs x hx)).elim (fun e => by rw [e]; exact hy) id
      omega
    have hye : y ∈ es := by
      apply Decidable.byContradiction
      intro hn
      have := sub_len es r nd fun x hx => (List.mem_cons.mp (hs x hx)).elim (fun e => absurd (e ▸ hx) hn) id
      omega
    refine List.nodup_cons.mpr ⟨hyr, nodup_rowN (es := es.erase y) (nd.erase y) (fun x hx => ?_) ?_⟩
    · have h1 := (nd.mem_erase_iff).mp hx
      exact (List.mem_cons.mp (hs x h1.2)).elim (fun e => absurd e h1.1) id
    · rw [List.length_erase_of_mem hye]
      omega
theorem RowOk.nd {n : Nat} {r : List Nat} {k : Nat → Nat} (x : RowOk n r k) : r.Nodup := by
  refine nodup_rowN (es := List.range n) List.nodup_range (fun p hp => List.mem_of_getElem? (x.2 p (List.mem_range.mp hp))) ?_
  rw [List.length_range]
  exact x.1.symm
theorem RowOk.lt {n : Nat} {r : List Nat} {k : Nat → Nat} (x : RowOk n r k) : ∀ p ∈ r, p < n := fun p hp => by
  apply Decidable.byContradiction
  intro hn
  have nd : (p :: List.range n).Nodup := List.nodup_cons.mpr ⟨fun h => hn (List.mem_range.mp h), List.nodup_range⟩
  have := sub_len (p :: List.range n) r nd fun q hq => (List.mem_cons.mp hq).elim (fun e => by rw [e]; exact hp) fun h => List.mem_of_getElem? (x.2 q (List.mem_range.mp h))
  rw [List.length_cons, List.length_range, x.1] at this
  omega
/-- two orders that cross just where points are tied -/
def LinesOk (n : Nat) (ties : List (Nat × Nat)) (r1 r2 : List Nat) : Prop := ∃ k1 k2 : Nat → Nat, RowOk n r1 k1 ∧ RowOk n r2 k2 ∧ ∀ a b, a < n → b < n → a ≠ b → (tieE ties a b ↔ (k1 a < k1 b ↔ ¬ k2 a < k2 b))
/-- arrows in any order -/
structure StoryU (ties R : List (Nat × Nat)) : Prop where
  nd : R.Nodup
  to : TO (tieE ties) fun x y => (x, y) ∈ R
section
variable {n : Nat} {ties R1 R2 : List (Nat × Nat)} (hg : Good n ties) (A1 : StoryU ties R1) (A2 : StoryU (coT n ties) R2)
include hg A1 A2
theorem lines_lin (hlt1 : ∀ p ∈ R1, p.1 < n ∧ p.2 < n) : LinL n (R1 ++ R2) := by
  have U := tieE_und hg
  have lt2 : ∀ x y, (x, y) ∈ R2 → x < n ∧ y < n := fun x y h => tieE_lt (coT_good n ties) (A2.to.sub h)
  have lt1 : ∀ x y, (x, y) ∈ R1 → x < n ∧ y < n := fun x y h => hlt1 _ h
  have ne1 : ∀ x y, (x, y) ∈ R1 → x ≠ y := fun x y h e => by subst e; exact U.ir (A1.to.sub h)
  have ne2 : ∀ x y, (x, y) ∈ R2 → x ≠ y := fun x y h e => by subst e; exact (tieE_und (coT_good n ties)).ir (A2.to.sub h)
  have e1 : ∀ x y, (x, y) ∈ R1 → tieE ties x y := fun x y h => A1.to.sub h
  have e2 : ∀ x y, (x, y) ∈ R2 → ¬ tieE ties x y := fun x y h => (coT_iff (lt2 x y h).1 (lt2 x y h).2 (ne2 x y h)).mp (A2.to.sub h)
  have tot : ∀ x y, x < n → y < n → x ≠ y → (x, y) ∈ R1 ++ R2 ∨ (y, x) ∈ R1 ++ R2 := fun x y hx hy ne => by
    by_cases c : tieE ties x y
    · exact (A1.to.all c).imp (List.mem_append_left _) (List.mem_append_left _)
    · exact (A2.to.all ((coT_iff hx hy ne).mpr c)).imp (List.mem_append_right _) (List.mem_append_right _)
  have asym : ∀ x y, (x, y) ∈ R1 ++ R2 → (y, x) ∉ R1 ++ R2 := fun x y h g => by
    rcases List.mem_append.mp h with h | h <;> rcases List.mem_append.mp g with g | g
    · exact A1.to.one (x := x) (y := y) h g
    · exact e2 y x g (U.sy (e1 x y h))
    · exact e2 x y h (U.sy (e1 y x g))
    · exact A2.to.one (x := x) (y := y) h g
  refine ⟨List.nodup_append.mpr ⟨A1.nd, A2.nd, fun a ha b hb e => ?_⟩, fun x y h => ?_, fun x h => ?_, tot, fun x y z h g => ?_⟩
  · subst e
    exact e2 a.1 a.2 hb (e1 a.1 a.2 ha)
  · exact (List.mem_append.mp h).elim (lt1 x y) (lt2 x y)
  · exact (List.mem_append.mp h).elim (fun h => ne1 x x h rfl) fun h => ne2 x x h rfl
  · have lx : x < n := ((List.mem_append.mp h).elim (lt1 x y) (lt2 x y)).1
    have lz : z < n := ((List.mem_append.mp g).elim (lt1 y z) (lt2 y z)).2
    have nxz : x ≠ z := fun e => by subst e; exact asym x y h g
    rcases tot x z lx lz nxz with k | k
    · exact k
    · exfalso
      rcases List.mem_append.mp h with h | h <;> rcases List.mem_append.mp g with g | g <;> rcases List.mem_append.mp k with k | k
      · exact A1.to.one (x := x) (y := z) (A1.to.go (x := x) (y := y) (z := z) h g) k
      · exact e2 z x k (U.sy (e1 x z (A1.to.go (x := x) (y := y) (z := z) h g)))
      · exact e2 y z g (U.sy (e1 z y (A1.to.go (x := z) (y := x) (z := y) k h)))
      · exact e2 y x (A2.to.go (x := y) (y := z) (z := x) g k) (U.sy (e1 x y h))
      · exact e2 x y h (U.sy (e1 y x (A1.to.go (x := y) (y := z) (z := x) g k)))
      · exact e2 z y (A2.to.go (x := z) (y := x) (z := y) k h) (U.sy (e1 y z g))
      · exact e2 x z (A2.to.go (x := x) (y := y) (z := z) h g) (U.sy (e1 z x k))
      · exact A2.to.one (x := x) (y := z) (A2.to.go (x := x) (y := y) (z := z) h g) k
end
def swP (p : Nat × Nat) : Nat × Nat := (p.2, p.1)
theorem mem_sw {R : List (Nat × Nat)} {x y : Nat} : (x, y) ∈ R.map swP ↔ (y, x) ∈ R := by
  rw [List.mem_map]
  constructor
  · rintro ⟨⟨a, b⟩, h, e⟩
    obtain ⟨rfl, rfl⟩ := Prod.mk.inj e
    exact h
  · exact fun h => ⟨(y, x), h, rfl⟩
theorem to_sw {E : Ar} (U : Und E) {R : List (Nat × Nat)} (O : TO E fun x y => (x, y) ∈ R) : TO E fun x y => (x, y) ∈ R.map swP :=
  ⟨fun h => U.sy (O.sub (mem_sw.mp h)), fun e => (O.all e).elim (fun h => .inr (mem_sw.mpr h)) fun h => .inl (mem_sw.mpr h), fun h g => O.one (mem_sw.mp h) (mem_sw.mp g), fun h g => mem_sw.mpr (O.go (mem_sw.mp g) (mem_sw.mp h))⟩
theorem StoryU.sw {n : Nat} {ties R : List (Nat × Nat)} (hg : Good n ties) (x : StoryU ties R) : StoryU ties (R.map swP) := by
  refine ⟨?_, to_sw (tieE_und hg) x.to⟩
  rw [List.Nodup, List.pairwise_map]
  exact x.nd.imp fun {a b} ne e => ne (Prod.ext (Prod.mk.inj e).2 (Prod.mk.inj e).1)
theorem StoryU.of {ties R : List (Nat × Nat)} (x : StoryA ties R) : StoryU ties R := ⟨x.ndR, x.2⟩
theorem StoryU.lt {n : Nat} {ties R : List (Nat × Nat)} (hg : Good n ties) (x : StoryU ties R) : ∀ p ∈ R, p.1 < n ∧ p.2 < n := fun p hp => tieE_lt hg (x.to.sub (x := p.1) (y := p.2) hp)
theorem lines_ok {n : Nat} {ties R1 R2 : List (Nat × Nat)} {r1 r2 : List Nat} (hg : Good n ties) (A1 : StoryU ties R1) (A2 : StoryU (coT n ties) R2) (h1 : RowOk n r1 (rk (R1 ++ R2))) (h2 : RowOk n r2 (rk (R1.map swP ++ R2))) : LinesOk n ties r1 r2 := by
  have U := tieE_und hg
  have L1 := lines_lin hg A1 A2 (A1.lt hg)
  have L2 := lines_lin hg (A1.sw hg) A2 ((A1.sw hg).lt hg)
  have e2 : ∀ x y, (x, y) ∈ R2 → ¬ tieE ties x y := fun x y h => by
    have lt := A2.lt (coT_good n ties) _ h
    have ne : x ≠ y := fun e => by subst e; exact (tieE_und (coT_good n ties)).ir (A2.to.sub h)
    exact (coT_iff lt.1 lt.2 ne).mp (A2.to.sub h)
  refine ⟨_, _, h1, h2, fun a b ha hb ne => ?_⟩
  rw [L1.rk_iff ha hb ne, L2.rk_iff ha hb ne, List.mem_append, List.mem_append, mem_sw]
  constructor
  · intro e
    have n2 : (a, b) ∉ R2 := fun h => e2 a b h e
    rcases A1.to.all e with h | h
    · exact iff_of_true (.inl h) fun k => k.elim (A1.to.one (x := a) (y := b) h) n2
    · exact iff_of_false (fun k => k.elim (A1.to.one (x := b) (y := a) h) n2) fun k => k (.inl h)
  · intro k
    apply Classical.byContradiction
    intro e
    have n1 : (a, b) ∉ R1 := fun h => e (A1.to.sub h)
    have n1' : (b, a) ∉ R1 := fun h => e (U.sy (A1.to.sub h))
    by_cases c : (a, b) ∈ R2
    · exact (k.mp (.inr c)) (.inr c)
    · have := k.mpr fun h => h.elim n1' c
      exact this.elim n1 c
end Ns

/-! Own layer: the opposite of a net, orders by arrows, lines told of a net. -/
namespace Ns
open PySem PySem.Spec PyProof.Rows L2
local macro_rules | `(tactic| walk_at "look") => `(tactic| first | assumption | exact upd_same | (refine (upd_ne (by first | assumption | exact Ne.symm (by assumption))).trans ?_; walk_at "look"))
local macro_rules | `(tactic| walk_at "cond") => `(tactic| first | assumption | omega | (dsimp only; omega) | exact ⟨by omega, by omega⟩ | decide | exact ⟨by decide, by decide, by decide⟩ | exact .inr ⟨by decide, by decide⟩ | exact .inl ⟨by decide, by decide⟩ | exact .inr ⟨by omega, by omega⟩ | exact .inl ⟨by omega, by omega⟩)
local macro_rules | `(tactic| walk_at "rd1") => `(tactic| first
  | refine ⟨_, rfl, ?_⟩
  | refine ⟨_, _, rfl, rfl, ?_⟩
  | refine ⟨rfl, ?_⟩
  | refine ⟨_, _, rfl, rfl, (by walk_at "cond"), ?_⟩
  | refine ⟨_, _, _, _, rfl, rfl, SqL.of (by walk_at "look"), rfl, ?_⟩
  | refine ⟨_, _, _, _, rfl, rfl, SqT.of (by walk_at "look"), rfl, ?_⟩
  | refine ⟨_, _, _, _, rfl, rfl, (by walk_at "look"), rfl, ?_⟩
  | refine .inl ⟨_, rfl, ?_⟩
  | refine ⟨.inl ⟨rfl, _, SqL.of (by walk_at "look")⟩, ?_⟩
  | refine ⟨_, _, rfl, ⟨by omega, by omega, by omega, by omega⟩, ?_⟩
  | refine ⟨_, rfl, (by omega), (by omega), ?_⟩
  | refine And.intro (by walk_at "cond") ?_)
local macro_rules | `(tactic| walk_at "rd") => `(tactic| repeat (walk_at "rd1"))

abbrev N_opposite : List Str := ["net", "there", "pairs", "x", "pair", "y"]
theorem sc_opposite : FnScope N_opposite ["net"] (defScope s_opposite) := ⟨rfl, rfl, rfl, by decide +kernel, rfl, by decide +kernel, by decide +kernel⟩
abbrev N_by_arrows : List Str := ["many", "arrows", "ahead", "arrow", "row", "point"]
theorem sc_by_arrows : FnScope N_by_arrows ["many", "arrows"] (defScope s_by_arrows) := ⟨rfl, rfl, rfl, by decide +kernel, rfl, by decide +kernel, by decide +kernel⟩
abbrev N_lines_of : List Str := ["net", "is_of", "arrows", "others", "back", "x", "y"]
theorem sc_lines_of : FnScope N_lines_of ["net"] (defScope s_lines_of) := ⟨rfl, rfl, rfl, by decide +kernel, rfl, by decide +kernel, by decide +kernel⟩
theorem ties_len {n : Nat} {ties : List (Nat × Nat)} (hg : Good n ties) (hn : n ≤ 40) : ties.length ≤ 1600 := by
  have nd : ties.Nodup := hg.2.imp fun {a b} h e => by subst e; unfold ltP at h; omega
  have h1 := sub_len ties (square n) nd fun p hp => mem_square (by have := hg.1 p hp; exact ⟨by omega, this.2⟩)
  have h2 := square_len n
  have h3 : n * n ≤ 40 * 40 := Nat.mul_le_mul hn hn
  omega
def iV (n : Nat) (f : Nat → Nat) : List V := (List.range n).map fun x => pI (f x)
theorem iV_len (n : Nat) (f : Nat → Nat) : (iV n f).length = n := by unfold iV; rw [List.length_map, List.length_range]
theorem iV_at {n : Nat} (f : Nat → Nat) {x : Nat} (h : x < n) : (iV n f)[x]? = some (pI (f x)) := by
  unfold iV
  rw [List.getElem?_map, List.getElem?_range h]
  rfl
theorem iV_set (n : Nat) (f g : Nat → Nat) (y : Nat) (hy : y < n) (ne : ∀ x, x ≠ y → g x = f x) : (iV n f).set y (pI (g y)) = iV n g := by
  apply List.ext_getElem?
  intro k
  rw [List.getElem?_set, iV_len]
  by_cases hk : k < n
  · rw [iV_at f hk, iV_at g hk]
    by_cases e : y = k
    · subst e
      rw [if_pos rfl, if_pos hk]
    · rw [if_neg e, ne k fun h => e h.symm]
  · rw [List.getElem?_eq_none (l := iV n f) (by rw [iV_len]; omega), List.getElem?_eq_none (l := iV n g) (by rw [iV_len]; omega), if_neg (by omega)]
theorem rep_iV (n : Nat) : (List.replicate n [V.int 0]).flatten = iV n fun _ => 0 := by
  unfold iV
  rw [List.map_const', List.length_range]
  induction n with
  | zero => rfl
  | succ k ih => rw [List.replicate_succ, List.flatten_cons, ih, List.replicate_succ]; rfl
theorem iV_nat (n : Nat) (f : Nat → Nat) : iV n f = ((List.range n).map f).map pI := by
  unfold iV
  rw [List.map_map]
  rfl
theorem rk_add (L : List (Nat × Nat)) (p : Nat × Nat) (x : Nat) : rk (L ++ [p]) x = if x = p.2 then rk L x + 1 else rk L x := by
  unfold rk
  rw [List.filter_append, List.length_append]
  by_cases c : p.2 = x
  · rw [List.filter_cons_of_pos (by exact decide_eq_true c), if_pos c.symm]
    rfl
  · rw [List.filter_cons_of_neg (by rw [decide_eq_true_eq]; exact c), if_neg fun h => c h.symm]
    rfl
section
variable {P : Program} {w : World} {K : PySem.W.Frag} {mg : Str → Option Value} {base : Heap}
def sp_opposite : Sp := fun vs H Q _ => ∃ (v : V) (n : Nat) (ties : List (Nat × Nat)), vs = [v] ∧ Net H v n ties ∧ n ≤ 40 ∧ Good n ties ∧ ∀ (v' : V) (H' : Hp), Same H H' → Net H' v' n (coT n ties) → Q v' H'
theorem cal_opposite {CB : Addr} (A : At K mg "opposite" s_opposite) (B : Bi mg) (c_check_net : Cal P w K mg base 4 "check_net" (sp_check_net K CB)) : Cal P w K mg base 5 "opposite" sp_opposite := by
  have nd := sc_opposite.nd
  refine A.cal sc_opposite (fun _ _ _ _ _ _ us hl => match us, hl with | [_], _ => rfl) ?_ fun f cdv A' outer s H vs Q E0 hr h => ⟨_, (pss_cons (ps_expr (pe_cal c_check_net hr (by first | decide | omega) (by rfl) passE (pa_cons (pv 0) pa_nil)))
  (pss_cons (ps_set (i := 1) nd rfl (.inr rfl) (pe_dcT (own := [("pair", 4)]) hr.units0 rfl nd (pi_tupK (K := K) rfl (pe_ix (ix_tupK (K := K) rfl) (pv 0) pe_int (fun _ _ => rfl))) (blkOk_by (own := [("pair", 4)]) (N := N_opposite) (sc := defScope s_opposite) (by decide +kernel)) ⟨fun _ _ _ _ _ => (pg_name (i := 4) nd rfl (.inl rfl) (.inr rfl)), fun _ _ _ _ _ => pts_nil, fun _ _ _ _ _ => (pv 4), fun _ _ _ _ _ => pe_bl⟩))
  (pss_cons (ps_set (i := 2) nd rfl (.inl rfl) (pe_lst pa_nil))
  (pss_cons (ps_for passOwn rfl (pi_range1 (by rfl) B.range (pa_cons (pe_ix (ix_tupK (K := K) rfl) (pv 0) pe_int (fun _ _ => rfl)) pa_nil)) (pg_name (i := 3) nd rfl (.inr rfl)) (pss_one (ps_expr (pe_bm PySem.F.plainAttrs_list PySem.F.slot_list_extend PySem.F.type_list_extend mt_extend (pv 2) (pa_cons (pe_lc (own := [("y", 5)]) rfl nd (pi_range2 (by rfl) B.range (pa_cons (pe_op op_add (pv 3) pe_int) (pa_cons (pe_ix (ix_tupK (K := K) rfl) (pv 0) pe_int (fun _ _ => rfl)) pa_nil))) (blkOk_by (own := [("y", 5)]) (N := N_opposite) (sc := defScope s_opposite) (by decide +kernel)) (fun _ _ _ _ _ => (pg_name (i := 5) nd rfl (.inl rfl) (.inr rfl))) (fun _ _ _ _ _ => (pts_one (pt_cmp (pc_dnotin (hu_of hr) (pe_tup (pa_cons (pv 3) (pa_cons (pv 5) pa_nil))) (pv 1)) rfl))) (fun _ _ _ _ _ => (pe_tup (pa_cons (pv 3) (pa_cons (pv 5) pa_nil))))) pa_nil)))))
  (pss_one (ps_ret (pe_tup (pa_cons (pe_ix (ix_tupK (K := K) rfl) (pv 0) pe_int (fun _ _ => rfl)) (pa_cons (pe_callTy (call_tuple_ofK (K := K) rfl) (by rfl) B.tuple (by decide +kernel) (pa_cons (pv 2) pa_nil)) pa_nil))))))))), ?_⟩
  · rintro vs H Q E ⟨v, n, ties, rfl, _⟩
    rfl
  · obtain ⟨v, n, ties, rfl, hN, hn, hg, q⟩ := h
    refine ⟨_, rfl, v, netD n ties, rfl, dp_net hN, fun _ H0 s0 => ?_, fun e => by rw [isNetD_net.mpr ⟨hn, hg⟩] at e; cases e⟩
    obtain ⟨t0, u0, rfl, h0, t2, us, rfl, h2, pr⟩ := hN.keep (sKt s0)
    have h0 : H0 t0 = some (.tup [pI n, .ref t2]) := h0
    have lpr := pr.length
    have lti := ties_len hg hn
    refine ⟨_, rfl, _, _, _, _, rfl, rfl, SqT.of h0, rfl, t2, rfl, ⟨_, SqT.of h2⟩, fun dT hdT => ?_⟩
    refine turns_it (walk_tup (K := K) (a := t2) (xs := us)) (fun i H7 => Same H0 H7 ∧ ∃ kvs, H7 dT = some (.dT kvs) ∧ kvs.length ≤ i ∧ ∀ q, hasP kvs q = decide (q ∈ ties.take i)) ⟨same_laid hdT, [], upd_same, Nat.le_refl _, fun q => by simp [hasP, valV]⟩ (fun i H7 _ ⟨s7, _⟩ => SqT.of (s7 _ _ h2)) ?_ ?_
    · rintro i v H7 H7' hi ⟨s7, kvs, hk, lk, hh⟩ ⟨rfl, hv⟩
      obtain ⟨p, hp, tp, rfl, htp⟩ := pAtL (pMono persPr (sKt s7) pr) hv
      refine ⟨rfl, ?_⟩
      unfold tYes
      dsimp only
      rw [if_pos rfl]
      have lp := length_putK kvs (key p) (V.bl true)
      refine ⟨_, rfl, kvs, key p, tp, rfl, htp, hk, sizeBig (by omega), sPut s7 hdT, putK kvs (key p) (.bl true), upd_same, by omega, fun q => ?_⟩
      rw [hasP_put, hh, List.take_add_one, hp, Bool.eq_iff_iff, Bool.or_eq_true, decide_eq_true_eq, decide_eq_true_eq, decide_eq_true_eq, List.mem_append]
      show q = p ∨ q ∈ ties.take i ↔ q ∈ ties.take i ∨ q ∈ [p]
      rw [List.mem_singleton]
      exact Or.comm
    rintro H1 ⟨s1, kvs, hkd, lk, hh⟩
    rw [lpr, List.take_length] at hh
    refine ⟨Nat.zero_le _, fun p hp => ?_⟩
    have s2 := sNew s1 (o := .lst []) hp
    refine ⟨_, rfl, _, _, _, _, rfl, rfl, SqT.of (s2 _ _ h0), rfl, _, rfl, by omega, by omega, ?_⟩
    refine for_range (lo := 0) (n := (n : Int).toNat) (fun i σ H3 => ∃ v3, σ = [some (.ref t0), some (.ref dT), some (.ref p), v3, none, none] ∧ Same H1 H3 ∧ ∃ us, H3 p = some (.lst us) ∧ Paired (Pr H3) us (((List.range i).flatMap (rowP n)).filter fun q => !tieT ties q.1 q.2)) ⟨none, rfl, same_laid hp, [], upd_same, by simpa using Paired.nil⟩ ?_ ?_
    · rintro i σ H3 hi ⟨v3, rfl, s3, us3, hu, pr3⟩
      refine ⟨_, rfl, .inl ⟨rfl, _, SqL.of hu⟩, _, rfl, _, _, rfl, rfl, _, rfl, _, _, _, _, rfl, rfl, SqT.of (s3 _ _ (s1 _ _ h0)), rfl, _, _, rfl, ⟨by omega, by omega, by omega, by omega⟩, fun D hD => ?_⟩
      have hpD : p ≠ D := ne_of_none hu hD
      have lr : us3.length ≤ 1000 * 1000 := by
        have h1 := flat_len (rowP n) n (rowP_len n) (List.range i)
        rw [List.length_range] at h1
        have h2 := pr3.length
        have h3 : i * n ≤ 40 * 40 := Nat.mul_le_mul (by omega) hn
        have h4 := List.length_filter_le (fun q : Nat × Nat => !tieT ties q.1 q.2) ((List.range i).flatMap (rowP n))
        omega
      refine comp_range (n := ((n : Int) - (0 + (i : Int) + 1)).toNat) (sizeBig (by omega)) (fun k => if tieT ties i (i + 1 + k) then none else some (i, i + 1 + k)) persPr hD ?_ ?_
      · intro k H4 Yes No hk s4 yes no
        refine ⟨rfl, _, rfl, _, rfl, by show 2 ≤ sizeLine; decide, fun t ht => ?_⟩
        have s5 := same_laid (o := .tup [.int (0 + (i : Int)), .int (0 + (i : Int) + 1 + (k : Int))]) ht
        refine ⟨_, rfl, dT, _, rfl, .inr ⟨kvs, key (i, i + 1 + k), t, .inl (s5 _ _ (s4 _ _ (s3 _ _ hkd))), rfl, ?_, rfl⟩, ?_⟩
        · show upd H4 t (.tup [.int (0 + (i : Int)), .int (0 + (i : Int) + 1 + (k : Int))]) t = some (.tup [pI i, pI (i + 1 + k)])
          rw [upd_same]
          unfold pI
          rw [show (0 + (i : Int)) = ((i : Nat) : Int) by omega, show ((i : Nat) : Int) + 1 + (k : Int) = ((i + 1 + k : Nat) : Int) by omega]
        · refine ⟨_, rfl, ?_⟩
          show if (!hasP kvs (i, i + 1 + k)) = true then _ else _
          have e : hasP kvs (i, i + 1 + k) = tieT ties i (i + 1 + k) := by
            rw [hh, Bool.eq_iff_iff, decide_eq_true_eq]
            show _ ↔ decide ((i, i + 1 + k) ∈ ties ∨ (i + 1 + k, i) ∈ ties) = true
            rw [decide_eq_true_eq]
            exact ⟨.inl, fun h => h.elim id fun h => by have := (hg.1 _ h).1; dsimp only at this; omega⟩
          rw [e]
          refine ifN (fun c => ?_) (fun c => ?_)
          · refine ⟨_, rfl, _, rfl, by show 2 ≤ sizeLine; decide, fun t6 h6 => ?_⟩
            exact yes (i, i + 1 + k) (by rw [c]; rfl) _ _ (s5.trans (same_laid h6)) (prMk upd_same (by simp) (by simp <;> omega))
          · exact no (by rw [c]; rfl) _ s5
      · intro H4 ys s4 hy pr4
        have e : (List.range ((n : Int) - (0 + (i : Int) + 1)).toNat).filterMap (fun k => if tieT ties i (i + 1 + k) = true then none else some (i, i + 1 + k)) = (rowP n i).filter fun q => !tieT ties q.1 q.2 := by
          rw [← rowP_eq (n := n) (x := i) (m := ((n : Int) - (0 + (i : Int) + 1)).toNat) (by omega)]
          generalize List.range ((n : Int) - (0 + (i : Int) + 1)).toNat = L
          induction L with
          | nil => rfl
          | cons k r ih =>
            simp only [List.filterMap_cons] at ih ⊢
            cases c : tieT ties i (i + 1 + k) <;> simp [c, ih]
        rw [e] at pr4
        have l4 := pr4.length
        have l5 := List.length_filter_le (fun q : Nat × Nat => !tieT ties q.1 q.2) (rowP n i)
        have l6 := rowP_len n i
        have hu4 := s4 _ _ hu
        refine ⟨_, _, _, _, rfl, rfl, hu4, hy, Nat.le_of_lt (sizeBig (by omega)), ?_⟩
        have kt : KeepT H4 (upd H4 p (.lst (us3 ++ ys))) := KeepT.lst hu4
        refine ⟨_, rfl, sPut (s3.trans s4) hp, _, upd_same, ?_⟩
        rw [List.range_succ, List.flatMap_append, List.filter_append]
        refine pApp (pMono persPr ((sKt s4).trans kt) pr3) ?_
        simpa using pMono persPr kt pr4
    · rintro σ H3 ⟨v3, rfl, s3, us3, hu, pr3⟩
      have h30 := s3 _ _ (s1 _ _ h0)
      refine ⟨_, rfl, _, _, _, _, rfl, rfl, SqT.of h30, rfl, _, rfl, p, us3, rfl, .inl ⟨SqL.of hu, fun t ht => ?_⟩⟩
      have x4 := same_laid (o := .tup us3) ht
      refine ⟨by show 2 ≤ sizeLine; decide, fun t5 ht5 => ?_⟩
      have x5 := same_laid (o := .tup [pI n, .ref t]) ht5
      exact q _ _ ((s0.trans s1).trans (s3.trans (x4.trans x5))) ⟨t5, .ref t, rfl, upd_same, t, us3, rfl, x5 _ _ upd_same, pMono persPr (sKt (x4.trans x5)) pr3⟩
def sp_by_arrows : Sp := fun vs H Q _ => ∃ (n : Nat) (s : Addr) (us : List V) (L : List (Nat × Nat)), vs = [pI n, .ref s] ∧ n ≤ 40 ∧ H s = some (.tup us) ∧ Paired (Pr H) us L ∧ L.length ≤ 4000 ∧ LinL n L ∧ ∀ (v : V) (r : List Nat) (H' : Hp), Same H H' → Row H' v r → RowOk n r (rk L) → Q v H'
theorem cal_by_arrows (A : At K mg "_by_arrows" s_by_arrows) (B : Bi mg) : Cal P w K mg base 1 "_by_arrows" sp_by_arrows := by
  have nd := sc_by_arrows.nd
  refine A.cal sc_by_arrows (fun _ _ _ _ _ _ us hl => match us, hl with | [_, _], _ => rfl) ?_ fun f cdv A' outer s H vs Q E0 hr h => ⟨_, (pss_cons (ps_set (i := 2) nd rfl (.inl rfl) (pe_op op_rep (pe_lst (pa_cons pe_int pa_nil)) (pv 0)))
  (pss_cons (ps_for passOwn rfl (pi_tupK (K := K) rfl (pv 1)) (pg_name (i := 3) nd rfl (.inl rfl)) (pss_one (ps_asg (pe_op op_add (pe_ix (ix_listK (K := K) rfl) (pv 2) (pe_ix (ix_tupK (K := K) rfl) (pv 3) pe_int (fun _ _ => rfl)) (fun _ _ => rfl)) pe_int) (pg_sub (pv 2) (pe_ix (ix_tupK (K := K) rfl) (pv 3) pe_int (fun _ _ => rfl)) set_list))))
  (pss_cons (ps_set (i := 4) nd rfl (.inl rfl) (pe_op op_rep (pe_lst (pa_cons pe_int pa_nil)) (pv 0)))
  (pss_cons (ps_for passOwn rfl (pi_range1 (by rfl) B.range (pa_cons (pv 0) pa_nil)) (pg_name (i := 5) nd rfl (.inl rfl)) (pss_one (ps_asg (pv 5) (pg_sub (pv 4) (pe_ix (ix_listK (K := K) rfl) (pv 2) (pv 5) (fun _ _ => rfl)) set_list))))
  (pss_one (ps_ret (pe_callTy (call_tuple_ofF (K := K) rfl) (by rfl) B.tuple (by decide +kernel) (pa_cons (pv 4) pa_nil)))))))), ?_⟩
  · rintro vs H Q E ⟨n, s, us, L, rfl, _⟩
    rfl
  · obtain ⟨n, s, us, L, rfl, hn, hs, pL, lL, lin, q⟩ := h
    refine ⟨by show 1 ≤ sizeLine; decide, fun p0 hp0 => ?_⟩
    have s1 := same_laid (o := .lst [.int 0]) hp0
    refine ⟨_, rfl, p0, n, _, rfl, rfl, upd_same, by omega, by omega, ?_, fun ps hps => ?_⟩
    · show 1 * (n : Int).toNat ≤ _
      exact Nat.le_of_lt (sizeBig (by omega))
    have hps2 : (upd (upd H p0 (.lst [.int 0])) ps (.lst (List.replicate ((n : Int).toNat) [V.int 0]).flatten)) ps = some (.lst (iV n fun _ => 0)) := by
      rw [upd_same, show ((n : Int)).toNat = n from Int.toNat_natCast n, rep_iV]
    have s2 := s1.trans (same_laid (o := .lst (List.replicate ((n : Int).toNat) [V.int 0]).flatten) hps)
    have psH : H ps = none := gone s1 hps
    have lus := pL.length
    generalize (upd (upd H p0 (.lst [.int 0])) ps (.lst (List.replicate ((n : Int).toNat) [V.int 0]).flatten)) = H2 at hps2 s2
    have hsk : ∀ {Hx : Hp}, Same H Hx → SqT K Hx s us := fun k => SqT.of (k _ _ hs)
    refine ⟨_, rfl, s, rfl, ⟨_, hsk s2⟩, for_tup (K := K) (a := s) (xs := us) (fun i σ H3 => ∃ v3, σ = [some (pI n), some (.ref s), some (.ref ps), v3, none, none] ∧ Same H H3 ∧ H3 ps = some (.lst (iV n (rk (L.take i))))) ⟨none, rfl, s2, hps2⟩ (fun i σ H3 _ ⟨_, _, s3, _⟩ => hsk s3) ?_ ?_⟩
    · rintro i x σ H3 hx ⟨v3, rfl, s3, hps3⟩
      obtain ⟨p, hp, tp, rfl, htp⟩ := pAtL (pMono persPr (sKt s3) pL) hx
      have hlt := lin.lt p.1 p.2 (List.mem_of_getElem? hp)
      refine ⟨_, rfl, _, rfl, _, _, _, _, rfl, rfl, SqT.of htp, rfl, _, _, _, _, rfl, rfl, SqL.of hps3, atI_nat (iV_at _ hlt.2), _, _, rfl, rfl, _, rfl, _, rfl, _, _, _, _, rfl, rfl, SqT.of htp, rfl, ps, _, _, p.2, rfl, rfl, hps3, by rw [iV_len]; exact ixN_of hlt.2, ?_⟩
      refine ⟨_, rfl, sPut s3 psH, ?_⟩
      rw [upd_same, ← iV_set n (rk (L.take i)) (rk (L.take (i + 1))) p.2 hlt.2 fun x hx => by rw [List.take_add_one, hp]; show rk (L.take i ++ [p]) x = _; rw [rk_add, if_neg hx]]
      rw [List.take_add_one, hp]
      show _ = some (HO.lst ((iV n (rk (L.take i))).set p.2 (pI (rk (L.take i ++ [p]) p.2))))
      rw [rk_add, if_pos rfl]
      rfl
    rintro σ H3 ⟨v3, rfl, s3, hps3⟩
    rw [lus, List.take_length] at hps3
    refine ⟨by show 1 ≤ sizeLine; decide, fun p1 hp1 => ?_⟩
    have s4 := same_laid (o := .lst [.int 0]) hp1
    refine ⟨_, rfl, p1, n, _, rfl, rfl, upd_same, by omega, by omega, ?_, fun pr hpr => ?_⟩
    · show 1 * (n : Int).toNat ≤ _
      exact Nat.le_of_lt (sizeBig (by omega))
    have hpr2 : (upd (upd H3 p1 (.lst [.int 0])) pr (.lst (List.replicate ((n : Int).toNat) [V.int 0]).flatten)) pr = some (.lst (((List.range n).map fun _ => 0).map pI)) := by
      rw [upd_same, show ((n : Int)).toNat = n from Int.toNat_natCast n, rep_iV, iV_nat]
    have s5 := s4.trans (same_laid (o := .lst (List.replicate ((n : Int).toNat) [V.int 0]).flatten) hpr)
    have prH : H3 pr = none := gone s4 hpr
    generalize (upd (upd H3 p1 (.lst [.int 0])) pr (.lst (List.replicate ((n : Int).toNat) [V.int 0]).flatten)) = H5 at hpr2 s5
    refine ⟨_, rfl, _, rfl, by omega, by omega, ?_⟩
    refine for_range (lo := 0) (n := (n : Int).toNat) (fun i σ H6 => ∃ v5 r, σ = [some (pI n), some (.ref s), some (.ref ps), v3, some (.ref pr), v5] ∧ Same H3 H6 ∧ H6 pr = some (.lst (List.map pI r)) ∧ r.length = n ∧ ∀ q, q < i → r[rk L q]? = some q) ⟨none, _, rfl, s5, hpr2, by rw [List.length_map, List.length_range], fun q h => by omega⟩ ?_ ?_
    · rintro i σ H6 hi ⟨v5, r, rfl, s6, hpr6, lr, hr6⟩
      have hin : i < n := by omega
      have hk := lin.rk_n hin
      rw [Int.zero_add]
      refine ⟨_, rfl, _, rfl, _, rfl, _, rfl, _, _, _, _, rfl, rfl, SqL.of (s6 _ _ hps3), atI_nat (j := i) (iV_at _ hin), pr, _, _, rk L i, rfl, rfl, hpr6, by rw [List.length_map, lr]; exact ixN_of hk, ?_⟩
      refine ⟨_, r.set (rk L i) i, rfl, sPut s6 prH, by rw [upd_same, List.map_set]; rfl, by rw [List.length_set, lr], fun q hq => ?_⟩
      rw [List.getElem?_set]
      by_cases c : q = i
      · subst c
        rw [if_pos rfl, if_pos (by omega)]
      · rw [if_neg (fun e => c (lin.rk_inj hin (by omega) e).symm)]
        exact hr6 q (by omega)
    · rintro σ H6 ⟨v5, r, rfl, s6, hpr6, lr, hr6⟩
      refine ⟨_, rfl, _, _, rfl, SqL.of hpr6, fun t o ht hd => ?_⟩
      exact q _ r _ ((s3.trans s6).trans (same_laid (o := .frz o (.tup (List.map pI r))) ht)) ⟨t, o, rfl, upd_same, hd⟩ ⟨lr, hr6⟩
/-- two orders that cross just where points are tied -/
def StoL (H : Hp) (n : Nat) (ties : List (Nat × Nat)) (s : Addr) : Prop := ∃ (v1 v2 : V) (r1 r2 : List Nat), H s = some (.tup [v1, v2]) ∧ Row H v1 r1 ∧ Row H v2 r2 ∧ LinesOk n ties r1 r2
/-- a place of arrows of a net or of its opposite -/
def PlaL (H : Hp) (n : Nat) (ties : List (Nat × Nat)) (s : Addr) : Prop := ∃ (z : Str) (a : Addr) (us : List V) (R : List (Nat × Nat)), H s = some (.tup [.str z, .ref a]) ∧ H a = some (.tup us) ∧ Paired (Pr H) us R ∧ R.length ≤ 1600 ∧ (z = "net" ∧ PlaceA ties R ∨ z = "opposite" ∧ PlaceA (coT n ties) R)
def ToldL (H : Hp) (n : Nat) (ties : List (Nat × Nat)) (t : Addr) : Prop := ∃ (ans : Bool) (s : Addr), H t = some (.tup [.bl ans, .ref s]) ∧ (ans = true ↔ NoTurn (tieE ties) ∧ NoTurn (tieE (coT n ties))) ∧ (ans = true → StoL H n ties s) ∧ (ans = false → PlaL H n ties s)
def sp_lines_of : Sp := fun vs H Q _ => ∃ (v : V) (n : Nat) (ties : List (Nat × Nat)), vs = [v] ∧ Net H v n ties ∧ n ≤ 40 ∧ Good n ties ∧ ∀ (t : Addr) (H' : Hp), Same H H' → ToldL H' n ties t → Q (.ref t) H'
theorem catT {K : PySem.W.Frag} {H : Hp} {Q : VK} {a b : Addr} {xs ys : List V} (ha : H a = some (.tup xs)) (hb : H b = some (.tup ys)) (hz : xs.length + ys.length ≤ 4000)
    (q : ∀ (r : Addr) H', Same H H' → H' r = some (.tup (xs ++ ys)) → Q (.ref r) H') : rCatA K (.ref a) (.ref b) H Q := by
  refine ⟨a, b, xs, ys, rfl, rfl, SqT.of ha, SqT.of hb, Nat.le_of_lt (sizeBig (by omega)), fun e => ?_, fun _ e => ?_, fun _ _ p hp => q p _ (same_laid hp) upd_same⟩
  · subst e
    exact q b H (Same.refl H) hb
  · subst e
    exact q a H (Same.refl H) (by rw [List.append_nil]; exact ha)
theorem cal_lines_of (A : At K mg "lines_of" s_lines_of) (B : Bi mg) (c_arrows_of : Cal P w K mg base 4 "arrows_of" sp_arrows_of) (c_opposite : Cal P w K mg base 5 "opposite" sp_opposite) (c_by_arrows : Cal P w K mg base 1 "_by_arrows" sp_by_arrows) : Cal P w K mg base 6 "lines_of" sp_lines_of := by
  have nd := sc_lines_of.nd
  refine A.cal sc_lines_of (fun _ _ _ _ _ _ us hl => match us, hl with | [_], _ => rfl) ?_ fun f cdv A' outer s H vs Q E0 hr h => ⟨_, (pss_cons (ps_asg (pe_cal c_arrows_of hr (by first | decide | omega) (by rfl) passE (pa_cons (pv 0) pa_nil)) (pg_tupK (K := K) (n := 2) rfl rfl (pgs_cons (pg_name (i := 1) nd rfl (.inl rfl)) (pgs_cons (pg_name (i := 2) nd rfl (.inl rfl)) pgs_nil))))
  (pss_cons (ps_if (pt_not (pt_val (pv 1))) (pss_one (ps_ret (pe_tup (pa_cons pe_bl (pa_cons (pe_tup (pa_cons pe_str (pa_cons (pv 2) pa_nil))) pa_nil))))) pss_nil)
  (pss_cons (ps_asg (pe_cal c_arrows_of hr (by first | decide | omega) (by rfl) passE (pa_cons (pe_cal c_opposite hr (by first | decide | omega) (by rfl) passE (pa_cons (pv 0) pa_nil)) pa_nil)) (pg_tupK (K := K) (n := 2) rfl rfl (pgs_cons (pg_name (i := 1) nd rfl (.inl rfl)) (pgs_cons (pg_name (i := 3) nd rfl (.inl rfl)) pgs_nil))))
  (pss_cons (ps_if (pt_not (pt_val (pv 1))) (pss_one (ps_ret (pe_tup (pa_cons pe_bl (pa_cons (pe_tup (pa_cons pe_str (pa_cons (pv 3) pa_nil))) pa_nil))))) pss_nil)
  (pss_cons (ps_set (i := 4) nd rfl (.inl rfl) (pe_callTy (call_tuple_ofK (K := K) rfl) (by rfl) B.tuple (by decide +kernel) (pa_cons (pe_lc (own := [("x", 5), ("y", 6)]) rfl nd (pi_tupK (K := K) rfl (pv 2)) (blkOk_by (own := [("x", 5), ("y", 6)]) (N := N_lines_of) (sc := defScope s_lines_of) (by decide +kernel)) (fun _ _ _ _ _ => (pg_tupK (K := K) (n := 2) rfl rfl (pgs_cons (pg_name (i := 5) nd rfl (.inl rfl) (.inr rfl)) (pgs_cons (pg_name (i := 6) nd rfl (.inl rfl) (.inr rfl)) pgs_nil)))) (fun _ _ _ _ _ => pts_nil) (fun _ _ _ _ _ => (pe_tup (pa_cons (pv 6) (pa_cons (pv 5) pa_nil))))) pa_nil)))
  (pss_one (ps_ret (pe_tup (pa_cons pe_bl (pa_cons (pe_tup (pa_cons (pe_cal c_by_arrows hr (by first | decide | omega) (by rfl) passE (pa_cons (pe_ix (ix_tupK (K := K) rfl) (pv 0) pe_int (fun _ _ => rfl)) (pa_cons (pe_op (op_catAK (K := K) rfl) (pv 2) (pv 3)) pa_nil))) (pa_cons (pe_cal c_by_arrows hr (by first | decide | omega) (by rfl) passE (pa_cons (pe_ix (ix_tupK (K := K) rfl) (pv 0) pe_int (fun _ _ => rfl)) (pa_cons (pe_op (op_catAK (K := K) rfl) (pv 4) (pv 3)) pa_nil))) pa_nil))) pa_nil)))))))))), ?_⟩
  · rintro vs H Q E ⟨v, n, ties, rfl, _⟩
    rfl
  · obtain ⟨v, n, ties, rfl, hN, hn, hg, q⟩ := h
    refine ⟨_, rfl, v, n, ties, rfl, hN, hn, hg, fun t H1 s1 co => ?_⟩
    obtain ⟨ans, sA, us1, R1, ht, hs1, pR1, lR1, hk, st1, pl1⟩ := toldA_iff hg co
    refine ⟨t, _, rfl, SqT.of ht, rfl, _, _, rfl, _, _, rfl, rfl, ?_⟩
    cases ans with
    | false =>
      refine ⟨_, rfl, _, rfl, iteT ?_⟩
      refine ⟨_, rfl, by show 2 ≤ sizeLine; decide, fun t2 ht2 => ⟨by show 2 ≤ sizeLine; decide, fun t3 ht3 => ?_⟩⟩
      have x2 := same_laid (o := .tup [.str "net", .ref sA]) ht2
      have x3 := same_laid (o := .tup [.bl false, .ref t2]) ht3
      refine q t3 _ (s1.trans (x2.trans x3)) ⟨false, t2, upd_same, iff_of_false Bool.false_ne_true fun N => Bool.false_ne_true (hk.mpr N.1), (fun e => nomatch e), fun _ => ⟨"net", sA, us1, R1, x3 _ _ upd_same, (x2.trans x3) _ _ hs1, pMono persPr (sKt (x2.trans x3)) pR1, lR1, .inl ⟨rfl, pl1 rfl⟩⟩⟩
    | true =>
    refine ⟨_, rfl, _, rfl, iteF ?_⟩
    have st1 := st1 rfl
    have nt1 := hk.mp rfl
    refine ⟨_, rfl, v, n, ties, rfl, hN.keep (sKt s1), hn, hg, fun v2 H2 s2 hN2 => ?_⟩
    refine ⟨v2, n, coT n ties, rfl, hN2, hn, coT_good n ties, fun t4 H3 s3 co3 => ?_⟩
    obtain ⟨ans2, sB, us2, R2, ht4, hs2, pR2, lR2, hk2, st2, pl2⟩ := toldA_iff (coT_good n ties) co3
    refine ⟨t4, _, rfl, SqT.of ht4, rfl, _, _, rfl, _, _, rfl, rfl, ?_⟩
    have s13 := s1.trans (s2.trans s3)
    cases ans2 with
    | false =>
      refine ⟨_, rfl, _, rfl, iteT ?_⟩
      refine ⟨_, rfl, by show 2 ≤ sizeLine; decide, fun t5 ht5 => ⟨by show 2 ≤ sizeLine; decide, fun t6 ht6 => ?_⟩⟩
      have x2 := same_laid (o := .tup [.str "opposite", .ref sB]) ht5
      have x3 := same_laid (o := .tup [.bl false, .ref t5]) ht6
      refine q t6 _ (s13.trans (x2.trans x3)) ⟨false, t5, upd_same, iff_of_false Bool.false_ne_true fun N => Bool.false_ne_true (hk2.mpr N.2), (fun e => nomatch e), fun _ => ⟨"opposite", sB, us2, R2, x3 _ _ upd_same, (x2.trans x3) _ _ hs2, pMono persPr (sKt (x2.trans x3)) pR2, lR2, .inr ⟨rfl, pl2 rfl⟩⟩⟩
    | true =>
    refine ⟨_, rfl, _, rfl, iteF ?_⟩
    have st2 := st2 rfl
    have nt2 := hk2.mp rfl
    have s23 := s2.trans s3
    have hs13 := s23 _ _ hs1
    have pR13 := pMono persPr (sKt s23) pR1
    have lus1 := pR1.length
    have lus2 := pR2.length
    have stU1 := StoryU.of st1
    have stU2 := StoryU.of st2
    have L1 := lines_lin hg stU1 stU2 (stU1.lt hg)
    have L2' := lines_lin hg (stU1.sw hg) stU2 ((stU1.sw hg).lt hg)
    refine ⟨_, rfl, sA, rfl, ⟨_, SqT.of hs13⟩, fun D hD => ?_⟩
    refine comp_tup persPr (fun p : Nat × Nat => some (swP p)) persPr hD hs13 (sizeBig (by omega)) pR13 ?_ ?_
    · rintro p v H4 Yes No hp ⟨tp, rfl, htp⟩ s4 yes no
      refine ⟨tp, _, rfl, SqT.of htp, rfl, _, _, rfl, _, _, rfl, rfl, rfl, ?_⟩
      refine iteT (B := No H4) ?_
      refine ⟨_, rfl, _, rfl, by show 2 ≤ sizeLine; decide, fun t5 h5 => ?_⟩
      exact yes _ rfl _ _ (same_laid h5) ⟨t5, rfl, upd_same⟩
    intro H4 vs4 s4 hv4 pr4
    rw [fm_some] at pr4
    have lus4 := pr4.length
    rw [List.length_map] at lus4
    refine ⟨D, vs4, rfl, .inl ⟨SqL.of hv4, fun t5 h5 => ?_⟩⟩
    have x5 := same_laid (o := .tup vs4) h5
    have pB5 := pMono persPr (sKt x5) pr4
    have s15 := s13.trans (s4.trans x5)
    have hA5 := (s4.trans x5) _ _ hs13
    have hB5 := (s4.trans x5) _ _ hs2
    have pA5 := pMono persPr (sKt (s4.trans x5)) pR13
    have pC5 := pMono persPr (sKt (s4.trans x5)) pR2
    have hbk5 : (upd H4 t5 (.tup vs4)) t5 = some (.tup vs4) := upd_same
    generalize (upd H4 t5 (.tup vs4)) = H5 at x5 pB5 s15 hA5 hB5 pA5 pC5 hbk5
    obtain ⟨t0, u0, rfl, h0, t2, uts, rfl, h2, pr⟩ := id hN
    have h0 : H t0 = some (.tup [pI n, .ref t2]) := h0
    refine ⟨_, rfl, _, _, _, _, rfl, rfl, SqT.of (s15 _ _ h0), rfl, _, rfl, _, rfl, ?_⟩
    refine catT hA5 hB5 (by omega) fun rA H6 s6 h6 => ?_
    refine ⟨n, rA, _, R1 ++ R2, rfl, hn, h6, pMono persPr (sKt s6) (pApp pA5 pC5), by rw [List.length_append]; omega, L1, fun w1 r1 H7 s7 w1r ok1 => ?_⟩
    have s57 := s6.trans s7
    refine ⟨_, rfl, _, _, _, _, rfl, rfl, SqT.of ((s15.trans s57) _ _ h0), rfl, _, rfl, _, rfl, ?_⟩
    refine catT (s57 _ _ hbk5) (s57 _ _ hB5) (by omega) fun rB H8 s8 h8 => ?_
    have s58 := s57.trans s8
    refine ⟨n, rB, _, R1.map swP ++ R2, rfl, hn, h8, pApp (pMono persPr (sKt s58) pB5) (pMono persPr (sKt s58) pC5), by rw [List.length_append, List.length_map]; omega, L2', fun w2 r2 H9 s9 w2r ok2 => ?_⟩
    have s79 := s8.trans s9
    have s59 := s57.trans s79
    refine ⟨by show 2 ≤ sizeLine; decide, fun ta hta => ⟨by show 2 ≤ sizeLine; decide, fun tb htb => ?_⟩⟩
    have xa := same_laid (o := .tup [w1, w2]) hta
    have xb := same_laid (o := .tup [.bl true, .ref ta]) htb
    have xab := xa.trans xb
    exact q tb _ (s15.trans (s59.trans xab)) ⟨true, ta, upd_same, iff_of_true rfl ⟨nt1, nt2⟩, fun _ => ⟨w1, w2, r1, r2, xb _ _ upd_same, w1r.same (s79.trans xab), w2r.same xab, lines_ok hg stU1 stU2 ok1 ok2⟩, fun e => nomatch e⟩
end
end Ns

/-! Own layer, plain: the ties of a net with another one in the place of a point. -/
namespace Ns
open PySem PySem.Spec PyProof.Rows L2
/-- the opposite among n points -/
def coB (n : Nat) (T : Tm) : Tm := fun x y => decide (x < n ∧ y < n ∧ x ≠ y ∧ T x y = false)
theorem coB_sy {n : Nat} {T : Tm} (S : SyT T) : SyT (coB n T) := ⟨fun x y => by
  unfold coB
  refine decide_eq_decide.mpr ?_
  rw [S.sy]
  exact ⟨fun h => ⟨h.2.1, h.1, Ne.symm h.2.2.1, h.2.2.2⟩, fun h => ⟨h.2.1, h.1, Ne.symm h.2.2.1, h.2.2.2⟩⟩, fun x => decide_eq_false fun h => h.2.2.1 rfl⟩
theorem SubN.co {an bn p : Nat} {Ta Tb Tn : Tm} (X : SubN an bn p Ta Tb Tn) : SubN an bn p (coB an Ta) (coB bn Tb) (coB (an - 1 + bn) Tn) := by
  have pl := X.pl
  refine ⟨X.pl, X.b1, coB_sy X.Sa, coB_sy X.Sb, coB_sy X.Sn, fun x y h => ?_, fun x y h => ?_, fun x y h => ?_, fun u v hu hv k => ?_, fun z w hz hw => ?_⟩
  · have := of_decide_eq_true h; exact ⟨this.1, this.2.1⟩
  · have := of_decide_eq_true h; exact ⟨this.1, this.2.1⟩
  · have := of_decide_eq_true h; exact ⟨this.1, this.2.1⟩
  · unfold coB
    refine decide_eq_decide.mpr ?_
    rw [X.out u v hu hv k]
    have e : u ≠ v ↔ psS (an - 1) p u ≠ psS (an - 1) p v := by
      unfold psS
      by_cases c1 : u < an - 1 <;> by_cases c2 : v < an - 1
      · rw [if_pos c1, if_pos c2]
        exact ⟨fun h e => h (nmS_inj e), fun h e => h (by rw [e])⟩
      · rw [if_pos c1, if_neg c2]
        exact ⟨fun _ => nmS_ne p u, fun _ => by omega⟩
      · rw [if_neg c1, if_pos c2]
        exact ⟨fun _ => Ne.symm (nmS_ne p v), fun _ => by omega⟩
      · exact absurd ⟨by omega, by omega⟩ k
    constructor
    · rintro ⟨_, _, h1, h2⟩
      exact ⟨X.ps_lt hu, X.ps_lt hv, e.mp h1, h2⟩
    · rintro ⟨_, _, h1, h2⟩
      exact ⟨hu, hv, e.mpr h1, h2⟩
  · unfold coB
    refine decide_eq_decide.mpr ?_
    rw [X.inn z w hz hw]
    constructor
    · rintro ⟨_, _, h1, h2⟩
      exact ⟨hz, hw, by omega, h2⟩
    · rintro ⟨_, _, h1, h2⟩
      exact ⟨by omega, by omega, by omega, h2⟩
/-- the pairs, as the program makes them -/
def putOne (f p bn : Nat) (q : Nat × Nat) : List (Nat × Nat) := if q.1 ≠ p ∧ q.2 ≠ p then [(umS p q.1, umS p q.2)] else (List.range bn).map fun z => (umS p (if q.1 = p then q.2 else q.1), f + z)
def putL (f p bn : Nat) (ta tb : List (Nat × Nat)) : List (Nat × Nat) := (tb.map fun q => (q.1 + f, q.2 + f)) ++ ta.flatMap (putOne f p bn)
theorem mem_putL {f p bn : Nat} {ta tb : List (Nat × Nat)} {u v : Nat} : (u, v) ∈ putL f p bn ta tb ↔ (∃ q ∈ tb, u = q.1 + f ∧ v = q.2 + f) ∨ (∃ q ∈ ta, q.1 ≠ p ∧ q.2 ≠ p ∧ u = umS p q.1 ∧ v = umS p q.2) ∨ ∃ q ∈ ta, (q.1 = p ∨ q.2 = p) ∧ u = umS p (if q.1 = p then q.2 else q.1) ∧ f ≤ v ∧ v < f + bn := by
  unfold putL putOne
  rw [List.mem_append, List.mem_map, List.mem_flatMap]
  constructor
  · rintro (⟨q, hq, e⟩ | ⟨q, hq, h⟩)
    · obtain ⟨e1, e2⟩ := Prod.mk.inj e
      exact .inl ⟨q, hq, e1.symm, e2.symm⟩
    · by_cases c : q.1 ≠ p ∧ q.2 ≠ p
      · rw [if_pos c, List.mem_singleton] at h
        obtain ⟨e1, e2⟩ := Prod.mk.inj h
        exact .inr (.inl ⟨q, hq, c.1, c.2, e1, e2⟩)
      · rw [if_neg c, List.mem_map] at h
        obtain ⟨z, hz, e⟩ := h
        obtain ⟨e1, e2⟩ := Prod.mk.inj e
        have hz := List.mem_range.mp hz
        exact .inr (.inr ⟨q, hq, by omega, e1.symm, by omega, by omega⟩)
  · rintro (⟨q, hq, e1, e2⟩ | ⟨q, hq, c1, c2, e1, e2⟩ | ⟨q, hq, c, e1, e2, e3⟩)
    · exact .inl ⟨q, hq, by rw [e1, e2]⟩
    · exact .inr ⟨q, hq, by rw [if_pos ⟨c1, c2⟩, e1, e2]; exact List.mem_singleton.mpr rfl⟩
    · refine .inr ⟨q, hq, ?_⟩
      rw [if_neg (by omega), List.mem_map]
      exact ⟨v - f, List.mem_range.mpr (by omega), by rw [e1]; exact Prod.ext rfl (by show f + (v - f) = v; omega)⟩
theorem tieT_iff {ts : List (Nat × Nat)} {x y : Nat} : tieT ts x y = true ↔ (x, y) ∈ ts ∨ (y, x) ∈ ts := decide_eq_true_iff
theorem tie_lt {n : Nat} {ts : List (Nat × Nat)} (hg : Good n ts) {x y : Nat} (h : tieT ts x y = true) : x < n ∧ y < n := by
  rcases tieT_iff.mp h with h | h <;> (have := hg.1 _ h; dsimp only at this; omega)
theorem tie_sy {n : Nat} {ts : List (Nat × Nat)} (hg : Good n ts) : SyT (tieT ts) := ⟨fun x y => tieT_sym ts x y, fun x => tieT_irr hg x⟩
theorem put_lt {an bn p : Nat} {ta tb : List (Nat × Nat)} (hp : p < an) (ga : Good an ta) (gb : Good bn tb) : ∀ q ∈ putL (an - 1) p bn ta tb, q.1 < an - 1 + bn ∧ q.2 < an - 1 + bn ∧ q.1 ≠ q.2 := by
  rintro ⟨u, v⟩ h
  rcases mem_putL.mp h with ⟨q, hq, e1, e2⟩ | ⟨q, hq, c1, c2, e1, e2⟩ | ⟨q, hq, c, e1, e2, e3⟩
  · have := gb.1 q hq
    exact ⟨by show u < _; omega, by show v < _; omega, by show u ≠ v; omega⟩
  · have h1 := ga.1 q hq
    have h2 := umS_lt hp (show q.1 < an by omega) c1
    have h3 := umS_lt hp h1.2 c2
    refine ⟨by show u < _; omega, by show v < _; omega, fun e => ?_⟩
    have e : umS p q.1 = umS p q.2 := by rw [← e1, ← e2]; exact e
    have := congrArg (nmS p) e
    rw [nmS_um c1, nmS_um c2] at this
    omega
  · have h1 := ga.1 q hq
    have h2 : umS p (if q.1 = p then q.2 else q.1) < an - 1 := by
      split
      · exact umS_lt hp h1.2 (by omega)
      · exact umS_lt hp (by omega) (by omega)
    exact ⟨by show u < _; omega, by show v < _; omega, by show u ≠ v; omega⟩
theorem put_sub {an bn p : Nat} {ta tb ties : List (Nat × Nat)} (hp : p < an) (b1 : 1 ≤ bn) (ga : Good an ta) (gb : Good bn tb) (gn : Good (an - 1 + bn) ties) (h : ∀ x y, tieT ties x y = true ↔ (x, y) ∈ putL (an - 1) p bn ta tb ∨ (y, x) ∈ putL (an - 1) p bn ta tb) : SubN an bn p (tieT ta) (tieT tb) (tieT ties) := by
  -- one way of reading the pairs
  have old : ∀ u v, u < an - 1 → v < an - 1 → ((u, v) ∈ putL (an - 1) p bn ta tb ↔ (nmS p u, nmS p v) ∈ ta) := fun u v hu hv => by
    rw [mem_putL]
    constructor
    · rintro (⟨q, hq, e1, e2⟩ | ⟨q, hq, c1, c2, e1, e2⟩ | ⟨q, hq, c, e1, e2, e3⟩)
      · omega
      · rw [e1, e2, nmS_um c1, nmS_um c2]
        exact hq
      · omega
    · intro g
      exact .inr (.inl ⟨_, g, nmS_ne p u, nmS_ne p v, (umS_nm p u).symm, (umS_nm p v).symm⟩)
  have mix : ∀ u v, u < an - 1 → an - 1 ≤ v → v < an - 1 + bn → (((u, v) ∈ putL (an - 1) p bn ta tb ∨ (v, u) ∈ putL (an - 1) p bn ta tb) ↔ tieT ta (nmS p u) p = true) := fun u v hu hv hv2 => by
    rw [mem_putL, mem_putL, tieT_iff]
    constructor
    · rintro ((⟨q, hq, e1, e2⟩ | ⟨q, hq, c1, c2, e1, e2⟩ | ⟨q, hq, c, e1, e2, e3⟩) | (⟨q, hq, e1, e2⟩ | ⟨q, hq, c1, c2, e1, e2⟩ | ⟨q, hq, c, e1, e2, e3⟩))
      · omega
      · have := umS_lt hp (ga.1 q hq).2 c2
        omega
      · have lt := (ga.1 q hq).1
        by_cases k : q.1 = p
        · rw [if_pos k] at e1
          rw [e1, nmS_um (by omega), ← k]
          exact .inr hq
        · rw [if_neg k] at e1
          rw [e1, nmS_um k, ← c.resolve_left k]
          exact .inl hq
      · omega
      · have := umS_lt hp (show q.1 < an by have := ga.1 q hq; omega) c1
        omega
      · omega
    · rintro (g | g)
      · have := (ga.1 _ g).1
        refine .inl (.inr (.inr ⟨_, g, .inr rfl, ?_, hv, hv2⟩))
        show u = umS p (if nmS p u = p then p else nmS p u)
        rw [if_neg (nmS_ne p u), umS_nm]
      · refine .inl (.inr (.inr ⟨_, g, .inl rfl, ?_, hv, hv2⟩))
        show u = umS p (if p = p then nmS p u else p)
        rw [if_pos rfl, umS_nm]
  have ins : ∀ z w, z < bn → w < bn → ((an - 1 + z, an - 1 + w) ∈ putL (an - 1) p bn ta tb ↔ (z, w) ∈ tb) := fun z w hz hw => by
    rw [mem_putL]
    constructor
    · rintro (⟨q, hq, e1, e2⟩ | ⟨q, hq, c1, c2, e1, e2⟩ | ⟨q, hq, c, e1, e2, e3⟩)
      · rw [show z = q.1 by omega, show w = q.2 by omega]
        exact hq
      · have := umS_lt hp (show q.1 < an by have := ga.1 q hq; omega) c1
        omega
      · have lt := ga.1 q hq
        have h2 : umS p (if q.1 = p then q.2 else q.1) < an - 1 := by
          split
          · exact umS_lt hp lt.2 (by omega)
          · exact umS_lt hp (by omega) (by omega)
        omega
    · intro g
      exact .inl ⟨_, g, Nat.add_comm _ _, Nat.add_comm _ _⟩
  refine ⟨hp, b1, tie_sy ga, tie_sy gb, tie_sy gn, fun x y e => tie_lt ga e, fun x y e => tie_lt gb e, fun x y e => tie_lt gn e, fun u v hu hv k => ?_, fun z w hz hw => ?_⟩
  · rw [Bool.eq_iff_iff, h]
    unfold psS
    by_cases c1 : u < an - 1 <;> by_cases c2 : v < an - 1
    · rw [if_pos c1, if_pos c2, old u v c1 c2, old v u c2 c1, tieT_iff]
    · rw [if_pos c1, if_neg c2]
      exact mix u v c1 (by omega) hv
    · rw [if_neg c1, if_pos c2, tieT_sym, Or.comm]
      exact mix v u c2 (by omega) hu
    · exact absurd ⟨by omega, by omega⟩ k
  · rw [Bool.eq_iff_iff, h, ins z w hz hw, ins w z hw hz, tieT_iff]
end Ns

/-! Own layer: what is told of cograph, arrows and lines. -/
namespace Ns
open PySem PySem.Spec PyProof.Rows L2
local macro_rules | `(tactic| walk_at "look") => `(tactic| first | assumption | exact upd_same | (refine (upd_ne (by first | assumption | exact Ne.symm (by assumption))).trans ?_; walk_at "look"))
local macro_rules | `(tactic| walk_at "cond") => `(tactic| first | assumption | omega | (dsimp only; omega) | exact ⟨by omega, by omega⟩ | decide | exact ⟨by decide, by decide, by decide⟩ | exact .inr ⟨by decide, by decide⟩ | exact .inl ⟨by decide, by decide⟩ | exact .inr ⟨by omega, by omega⟩ | exact .inl ⟨by omega, by omega⟩)
local macro_rules | `(tactic| walk_at "rd1") => `(tactic| first
  | refine ⟨_, rfl, ?_⟩
  | refine ⟨_, _, rfl, rfl, ?_⟩
  | refine ⟨rfl, ?_⟩
  | refine ⟨_, _, rfl, rfl, (by walk_at "cond"), ?_⟩
  | refine ⟨_, _, _, _, rfl, rfl, SqL.of (by walk_at "look"), rfl, ?_⟩
  | refine ⟨_, _, _, _, rfl, rfl, SqT.of (by walk_at "look"), rfl, ?_⟩
  | refine ⟨_, _, _, _, rfl, rfl, (by walk_at "look"), rfl, ?_⟩
  | refine .inl ⟨_, rfl, ?_⟩
  | refine ⟨.inl ⟨rfl, _, SqL.of (by walk_at "look")⟩, ?_⟩
  | refine ⟨_, _, rfl, ⟨by omega, by omega, by omega, by omega⟩, ?_⟩
  | refine ⟨_, rfl, (by omega), (by omega), ?_⟩
  | refine And.intro (by walk_at "cond") ?_)
local macro_rules | `(tactic| walk_at "rd") => `(tactic| repeat (walk_at "rd1"))

abbrev N_is_of : List Str := ["net", "kind"]
theorem sc_is_of : FnScope N_is_of ["net", "kind"] (defScope s_is_of) := ⟨rfl, rfl, rfl, by decide +kernel, rfl, by decide +kernel, by decide +kernel⟩
inductive K26 | co | ar | li
def kd26 : K26 → Str | .co => "cograph" | .ar => "arrows" | .li => "lines"
def of26 : K26 → Str | .co => "cograph_of" | .ar => "arrows_of" | .li => "lines_of"
def Told26 (H : Hp) (n : Nat) (ties : List (Nat × Nat)) (t : Addr) : K26 → Prop | .co => ToldC H n ties t | .ar => ToldA H n ties t | .li => ToldL H n ties t
def Yes26 (n : Nat) (T : Tm) : K26 → Prop
  | .co => ¬ P4 T (List.range n)
  | .ar => NoTurn fun x y => T x y = true
  | .li => NoTurn (fun x y => T x y = true) ∧ NoTurn fun x y => coB n T x y = true
theorem coT_coB {n : Nat} {ties : List (Nat × Nat)} (hg : Good n ties) : tieE (coT n ties) = fun x y => coB n (tieT ties) x y = true := by
  funext x y
  refine propext ?_
  unfold coB
  rw [decide_eq_true_eq]
  constructor
  · intro h
    obtain ⟨hx, hy⟩ := tie_lt (coT_good n ties) h
    have ne : x ≠ y := fun e => by
      have h : tieT (coT n ties) x y = true := h
      rw [e, tieT_irr (coT_good n ties)] at h
      cases h
    exact ⟨hx, hy, ne, Bool.eq_false_iff.mpr ((coT_iff hx hy ne).mp h)⟩
  · rintro ⟨hx, hy, ne, h⟩
    exact (coT_iff hx hy ne).mpr (Bool.eq_false_iff.mp h)
theorem SubN.yes {an bn p : Nat} {Ta Tb Tn : Tm} (X : SubN an bn p Ta Tb Tn) : ∀ k, Yes26 (an - 1 + bn) Tn k ↔ Yes26 an Ta k ∧ Yes26 bn Tb k
  | .co => by
    show ¬ P4 _ _ ↔ ¬ P4 _ _ ∧ ¬ P4 _ _
    rw [X.row, not_or]
  | .ar => X.arrows
  | .li => by
    show _ ∧ _ ↔ (_ ∧ _) ∧ (_ ∧ _)
    rw [X.arrows, X.co.arrows]
    exact and_and_and_comm
section
variable {P : Program} {w : World} {K : PySem.W.Frag} {mg : Str → Option Value} {base : Heap}
def sp_of26 (g : Nat) (k : K26) : Sp := fun vs H Q _ => ∃ (v : V) (n : Nat) (ties : List (Nat × Nat)), vs = [v] ∧ Net H v n ties ∧ n ≤ 40 ∧ n ≤ g ∧ Good n ties ∧ ∀ (t : Addr) (H' : Hp), Same H H' → Told26 H' n ties t k → Q (.ref t) H'
theorem of26C {kT g : Nat} (c : Cal P w K mg base kT "cograph_of" (sp_cograph_of g)) : Cal P w K mg base kT (of26 .co) (sp_of26 g .co) := c
theorem of26A {kT g : Nat} (c : Cal P w K mg base kT "arrows_of" sp_arrows_of) : Cal P w K mg base kT (of26 .ar) (sp_of26 g .ar) :=
  c.imp fun vs H Q E ⟨v, n, ties, e, hN, hn, _, hg, q⟩ => ⟨v, n, ties, e, hN, hn, hg, q⟩
theorem of26L {kT g : Nat} (c : Cal P w K mg base kT "lines_of" sp_lines_of) : Cal P w K mg base kT (of26 .li) (sp_of26 g .li) :=
  c.imp fun vs H Q E ⟨v, n, ties, e, hN, hn, _, hg, q⟩ => ⟨v, n, ties, e, hN, hn, hg, q⟩
def sp_tell26 (g : Nat) : Sp := fun vs H Q _ => ∃ (k : K26) (v : V) (n : Nat) (ties : List (Nat × Nat)), vs = [v, .str (kd26 k)] ∧ Net H v n ties ∧ n ≤ 40 ∧ n ≤ g ∧ Good n ties ∧ ∀ (t : Addr) H', Same H H' → Told26 H' n ties t k → Q (.ref t) H'
theorem cal_tell26 {g kT : Nat} (hkT : 4 ≤ kT) {CB aK a_TELLERS : Addr} {fk : K26 → Addr} {ys : List Str} (A : At K mg "tell" s_tell) (B : Bi mg) (c_check_net : Cal P w K mg base 4 "check_net" (sp_check_net K CB)) (c_check_kind : CalD P w K mg base 1 "check_kind" [.ref aK] (sp_check_kind K))
    (hK : ∀ H, SqT K H aK (ys.map V.str)) (hin : ∀ k, inV (.str (kd26 k)) (ys.map V.str) = true) (c_TELLERS : mg "TELLERS" = some (.ref a_TELLERS)) (hD : ∀ k, KDct K w a_TELLERS (kd26 k) (.ref (fk k))) (hf : ∀ k, mg (of26 k) = some (.ref (fk k))) (c_of : ∀ k, Cal P w K mg base kT (of26 k) (sp_of26 g k)) : Cal P w K mg base (kT + 1) "tell" (sp_tell26 g) := by
  have nd := sc_tell.nd
  have c_check_net := c_check_net.mono hkT
  refine A.cal sc_tell (fun _ _ _ _ _ _ us hl => match us, hl with | [_, _], _ => rfl) ?_ fun f cdv A' outer s H vs Q E hr h => ⟨_, (pss_cons (ps_expr (pe_cal c_check_net hr (by first | decide | omega) (by rfl) passE (pa_cons (pv 0) pa_nil)))
  (pss_cons (ps_expr (pe_calD c_check_kind hr (by first | decide | omega) (by rfl) passE (pa_cons (pv 1) pa_nil)))
  (pss_one (ps_ret (pe_callV (k := kT) hr (by omega) (pe_ix ix_kdict (pe_glob (v := .ref a_TELLERS) rfl c_TELLERS rfl) (pv 1) (fun _ _ => rfl)) passE (pa_cons (pv 0) pa_nil)))))), ?_⟩
  · rintro vs H Q E ⟨k, v, n, ties, rfl, _⟩
    rfl
  · obtain ⟨k, v, n, ties, rfl, hN, hn, hng, hg, q⟩ := h
    refine ⟨_, rfl, v, netD n ties, rfl, dp_net hN, fun _ H0 s0 => ?_, fun e => by rw [isNetD_net.mpr ⟨hn, hg⟩] at e; cases e⟩
    refine ⟨_, rfl, kd26 k, aK, ys, rfl, hK H0, hin k, fun H1 s1 => ?_⟩
    have s01 := s0.trans s1
    refine ⟨_, rfl, a_TELLERS, kd26 k, .ref (fk k), rfl, rfl, hD k, of26 k, fk k, sp_of26 g k, rfl, hf k, c_of k, ?_⟩
    exact ⟨_, rfl, v, n, ties, rfl, hN.keep (sKt s01), hn, hng, hg, fun t H2 e2 co => q t H2 (s01.trans e2) co⟩
theorem tell26C {kT g : Nat} (c : Cal P w K mg base kT "tell" (sp_tell26 g)) : Cal P w K mg base kT "tell" (sp_tellC g) :=
  c.imp fun vs H Q E ⟨v, n, ties, e, hN, hn, h, hg, q⟩ => ⟨.co, v, n, ties, e, hN, hn, h, hg, q⟩
theorem told26 {H : Hp} {n : Nat} {ties : List (Nat × Nat)} {t : Addr} (hg : Good n ties) : ∀ {k}, Told26 H n ties t k → ∃ (ans : Bool) (u : V), H t = some (.tup [.bl ans, u]) ∧ (ans = true ↔ Yes26 n (tieT ties) k)
  | .co, .inl ⟨n0, ht⟩ => by
    subst n0
    exact ⟨true, _, ht, iff_of_true rfl fun ⟨a, b, c, d, h, _⟩ => nomatch h⟩
  | .co, .inr ⟨np, .inl ⟨tv, d, ht, hv, ct⟩⟩ => ⟨true, _, ht, iff_of_true rfl (cotr_no (syT_of hg) ct)⟩
  | .co, .inr ⟨np, .inr ⟨r, a, b, c, d, ht, hr1, row⟩⟩ => ⟨false, _, ht, iff_of_false Bool.false_ne_true fun h => h ⟨a, b, c, d, row⟩⟩
  | .ar, h => by
    obtain ⟨ans, s, us, R, ht, hs, pR, lR, hk, _⟩ := toldA_iff hg h
    exact ⟨ans, _, ht, hk⟩
  | .li, ⟨ans, s, ht, hk, _⟩ => by
    rw [coT_coB hg] at hk
    exact ⟨ans, _, ht, hk⟩
def sp_isof26 (g : Nat) : Sp := fun vs H Q _ => ∃ (k : K26) (v : V) (n : Nat) (ties : List (Nat × Nat)), vs = [v, .str (kd26 k)] ∧ Net H v n ties ∧ n ≤ 40 ∧ n ≤ g ∧ Good n ties ∧ ∀ (ans : Bool) H', Same H H' → (ans = true ↔ Yes26 n (tieT ties) k) → Q (.bl ans) H'
theorem cal_isof26 {g kT : Nat} (A : At K mg "is_of" s_is_of) (B : Bi mg) (c_tell : Cal P w K mg base kT "tell" (sp_tell26 g)) : Cal P w K mg base (kT + 1) "is_of" (sp_isof26 g) := by
  have nd := sc_is_of.nd
  refine A.cal sc_is_of (fun _ _ _ _ _ _ us hl => match us, hl with | [_, _], _ => rfl) ?_ fun f cdv A' outer s H vs Q E hr h => ⟨_, (pss_one (ps_ret (pe_ix (ix_tupK (K := K) rfl) (pe_cal c_tell hr (by first | decide | omega) (by rfl) passE (pa_cons (pv 0) (pa_cons (pv 1) pa_nil))) pe_int (fun _ _ => rfl)))), ?_⟩
  · rintro vs H Q E ⟨k, v, n, ties, rfl, _⟩
    rfl
  · obtain ⟨k, v, n, ties, rfl, hN, hn, hng, hg, q⟩ := h
    refine ⟨_, rfl, _, rfl, k, v, n, ties, rfl, hN, hn, hng, hg, fun t H1 s1 co => ?_⟩
    obtain ⟨ans, u, ht, hk⟩ := told26 hg co
    exact ⟨_, _, _, _, rfl, rfl, SqT.of ht, rfl, q ans H1 s1 hk⟩
end
end Ns

/-! Own layer: the law of trees as they were built. -/
namespace Ns
open PySem PySem.Spec PyProof.Rows L2
local macro_rules | `(tactic| walk_at "look") => `(tactic| first | assumption | exact upd_same | (refine (upd_ne (by first | assumption | exact Ne.symm (by assumption))).trans ?_; walk_at "look"))
local macro_rules | `(tactic| walk_at "cond") => `(tactic| first | assumption | omega | (dsimp only; omega) | exact ⟨by omega, by omega⟩ | decide | exact ⟨by decide, by decide, by decide⟩ | exact .inr ⟨by decide, by decide⟩ | exact .inl ⟨by decide, by decide⟩ | exact .inr ⟨by omega, by omega⟩ | exact .inl ⟨by omega, by omega⟩)
local macro_rules | `(tactic| walk_at "rd1") => `(tactic| first
  | refine ⟨_, rfl, ?_⟩
  | refine ⟨_, _, rfl, rfl, ?_⟩
  | refine ⟨rfl, ?_⟩
  | refine ⟨_, _, rfl, rfl, (by walk_at "cond"), ?_⟩
  | refine ⟨_, _, _, _, rfl, rfl, SqL.of (by walk_at "look"), rfl, ?_⟩
  | refine ⟨_, _, _, _, rfl, rfl, SqT.of (by walk_at "look"), rfl, ?_⟩
  | refine ⟨_, _, _, _, rfl, rfl, (by walk_at "look"), rfl, ?_⟩
  | refine .inl ⟨_, rfl, ?_⟩
  | refine ⟨.inl ⟨rfl, _, SqL.of (by walk_at "look")⟩, ?_⟩
  | refine ⟨_, _, rfl, ⟨by omega, by omega, by omega, by omega⟩, ?_⟩
  | refine ⟨_, rfl, (by omega), (by omega), ?_⟩
  | refine And.intro (by walk_at "cond") ?_)
local macro_rules | `(tactic| walk_at "rd") => `(tactic| repeat (walk_at "rd1"))

abbrev N_law : List Str := ["script", "box", "n", "drawn", "there", "net", "due"]
theorem sc_law : FnScope N_law ["script"] (defScope s_law) := ⟨rfl, rfl, rfl, by decide +kernel, rfl, by decide +kernel, by decide +kernel⟩
mutual
theorem mtr_lay {T : Tm} {ps : List Nat} {d : PyData} {Ss : List (List Nat)} : MTr T ps d Ss → d.canLay0 = true ∧ d.depth ≤ 2 * ps.length
  | .leaf x => ⟨rfl, by simp [PyData.depth]⟩
  | .node r k l2 so rs os ts => by
    rename_i sort Ls ds Ss
    have ne : ∀ L ∈ Ls, L ≠ [] := fun L hL => kids_ne k hL
    have lLs := len_parts ne
    have lpm := k.pm.length_eq
    obtain ⟨h1, h2⟩ := mtrs_lay ts (ps.length - 1) fun L hL => by
      have := lLs.2 L hL
      omega
    have hs : (PyData.str sort).canLay0 = true := by rcases so with ⟨rfl, _⟩ | ⟨rfl, _⟩ | ⟨rfl, _⟩ <;> decide +kernel
    refine ⟨?_, ?_⟩
    · show ((PyData.str sort).canLay0 && (PyData.canLayAll0 ds && true)) = true
      rw [h1, hs]
      rfl
    · simp only [PyData.depth, PyData.depthAll]
      omega
theorem mtrs_lay {T : Tm} {Ls : List (List Nat)} {ds : List PyData} {Ss : List (List (List Nat))} : MTrs T Ls ds Ss → ∀ k, (∀ L ∈ Ls, L.length ≤ k) → PyData.canLayAll0 ds = true ∧ PyData.depthAll ds ≤ 2 * k
  | .nil, k, _ => ⟨rfl, by simp [PyData.depthAll]⟩
  | .cons a t, k, h => by
    rename_i L Ls d ds S Ss
    obtain ⟨h1, h2⟩ := mtr_lay a
    obtain ⟨h3, h4⟩ := mtrs_lay t k fun L hL => h L (List.mem_cons_of_mem _ hL)
    have h5 := h L (List.mem_cons_self ..)
    refine ⟨?_, ?_⟩
    · show (d.canLay0 && PyData.canLayAll0 ds) = true
      rw [h1, h3]
      rfl
    · simp only [PyData.depthAll]
      omega
end
theorem sh_mtr {T : Tm} {ps : List Nat} {d : PyData} {Ss : List (List Nat)} (m : MTr T ps d Ss) (h : ps.length ≤ 30) : SeqAt.shaped d = true := by
  obtain ⟨h1, h2⟩ := mtr_lay m
  show (d.canLay0 && decide _) = true
  rw [h1, decide_eq_true (by omega)]
  rfl
theorem tie_irr : ∀ (n : Nat) (d : Dr), d.hgt ≤ n → d.pts.Nodup → ∀ x, ¬ TieD d (x, x)
  | _, .leaf _, _, _, x, h => by rw [TieD] at h; exact h
  | 0, .node s ks, hn, _, _, _ => by rw [Dr.hgt] at hn; omega
  | n + 1, .node s ks, hn, nd, x, h => by
    rw [Dr.hgt] at hn
    rw [Dr.pts] at nd
    rw [TieD, tieDs_iff] at h
    rcases h with ⟨k, hk, h⟩ | ⟨i, j, Li, Lj, lt, h1, h2, _, h3, h4⟩
    · exact tie_irr n k ((hgtDr_le ks).mp (by omega) k hk) (nd.sublist (pts_sub hk)) x h
    · rw [ptsDr_eq] at nd
      obtain ⟨l1, e1⟩ := List.getElem?_eq_some_iff.mp h1
      obtain ⟨l2, e2⟩ := List.getElem?_eq_some_iff.mp h2
      exact absurd rfl ((List.pairwise_iff_getElem.mp (List.pairwise_flatten.mp nd).2) j i l2 l1 lt x (by rw [e2]; exact h3) x (by rw [e1]; exact h4))
/-- the net of a drawn tree stands as the tree tells -/
theorem drawn_ok {n : Nat} {d : Dr} {kvs : DT} (f : DFit d) (pm : d.pts.Perm (List.range n)) (h : ∀ q, hasP kvs q = true ↔ TieD d q) : DOk (tieT ((allPairs n).filter (either kvs))) d := by
  have gn : Good n ((allPairs n).filter (either kvs)) := Good.filter _
  have nd : d.pts.Nodup := pm.nodup_iff.mpr List.nodup_range
  have lt : ∀ x ∈ d.pts, x < n := fun x hx => List.mem_range.mp (pm.mem_iff.mp hx)
  refine f.ok (syM_of gn) nd fun x hx y hy => ?_
  by_cases e : x = y
  · subst e
    rw [(syM_of gn).ir]
    exact ⟨fun h => (nomatch h), fun h => (tie_irr _ d (Nat.le_refl _) nd x (h.elim id id)).elim⟩
  unfold tieT
  rw [decide_eq_true_eq, List.mem_filter, List.mem_filter, mem_allPairs, mem_allPairs]
  unfold either
  rw [Bool.or_eq_true, Bool.or_eq_true, h, h]
  have hx := lt x hx
  have hy := lt y hy
  constructor
  · rintro (⟨_, h⟩ | ⟨_, h⟩)
    · exact h
    · exact h.symm
  · intro h
    rcases Nat.lt_or_gt_of_ne e with c | c
    · exact .inl ⟨⟨c, hy⟩, h⟩
    · exact .inr ⟨⟨c, hx⟩, h.symm⟩
theorem p4_perm {T : Tm} {P P' : List Nat} (pm : P.Perm P') : P4 T P ↔ P4 T P' := by
  unfold P4
  simp only [pm.mem_iff]
theorem rise_range {L : List Nat} {n : Nat} (r : L.Pairwise (· < ·)) (pm : L.Perm (List.range n)) : L = List.range n :=
  rising_eq (r.imp Nat.le_of_lt) List.pairwise_lt_range pm
section
variable {P : Program} {w : World} {K : PySem.W.Frag} {mg : Str → Option Value} {base : Heap}
def sp_law (K : PySem.W.Frag) : Sp := fun vs H Q _ => ∃ (a : Addr) (ns : List Int), vs = [.ref a] ∧ SqL K H a (ns.map V.int) ∧ ns.length ≤ 63 ∧ ∀ H', Q (.bl true) H'
theorem ok_law {f : Addr} {fd : FuncData} (F : FnP K "law" s_law f fd) (B : Bi mg) (c_law_box : Cal P w K mg base 1 "_law_box" (sp_box K)) (c_law_take : Cal P w K mg base 1 "_law_take" sp_take) (c_law_row : Cal P w K mg base 2 "_law_row" sp_row) (c_law_drawn_tree : Cal P w K mg base 16 "_law_drawn_tree" (sp_drawn 13)) (c_law_spread : Cal P w K mg base 15 "_law_spread" (sp_spread 13 14)) (c_law_made : Cal P w K mg base 2 "_law_made" sp_made)
    (c_law_due : Cal P w K mg base 30 "_law_due" (sp_duet 13 14)) (c_tree : Cal P w K mg base 18 "tree" (sp_tree 14)) (c_strong_sets : Cal P w K mg base 19 "strong_sets" (sp_strong_sets K 14)) (c_law_tree_sets : Cal P w K mg base 17 "_law_tree_sets" (sp_sets 14)) (c_law_says : Cal P w K mg base 1 "_law_says" sp_says) (c_is_of : Cal P w K mg base 19 "is_of" (sp_isof26 14)) (c_law_goes : Cal P w K mg base 15 "_law_goes" (sp_goes 13)) : FnOk P w K mg base (L2.CX P w) 31 f fd ["script"] (sp_law K) := by
  have nd := sc_law.nd
  refine F.ok sc_law ?_ fun cdv A' outer s H vs Q E hr h => ⟨_, (pss_cons (ps_set (i := 1) nd rfl (.inl rfl) (pe_cal c_law_box hr (by first | decide | omega) (by rfl) passE (pa_cons (pv 0) pa_nil)))
  (pss_cons (ps_set (i := 2) nd rfl (.inl rfl) (pe_op op_add pe_int (pe_cal c_law_take hr (by first | decide | omega) (by rfl) passE (pa_cons (pv 1) (pa_cons pe_int pa_nil)))))
  (pss_cons (ps_set (i := 3) nd rfl (.inl rfl) (pe_cal c_law_drawn_tree hr (by first | decide | omega) (by rfl) passE (pa_cons (pv 1) (pa_cons (pe_callTy (call_list_ofK (K := K) rfl) (by rfl) B.list (by decide +kernel) (pa_cons (pe_cal c_law_row hr (by first | decide | omega) (by rfl) passE (pa_cons (pv 1) (pa_cons (pv 2) pa_nil))) pa_nil)) (pa_cons pe_str pa_nil)))))
  (pss_cons (ps_set (i := 4) nd rfl (.inl rfl) pe_dnewT)
  (pss_cons (ps_expr (pe_cal c_law_spread hr (by first | decide | omega) (by rfl) passE (pa_cons (pv 3) (pa_cons (pv 4) pa_nil))))
  (pss_cons (ps_par (i := 5) (j := 6) rfl nd rfl rfl (by decide) rfl rfl (pa_cons (pe_cal c_law_made hr (by first | decide | omega) (by rfl) passE (pa_cons (pv 2) (pa_cons (pv 4) pa_nil))) (pa_cons (pe_cal c_law_due hr (by first | decide | omega) (by rfl) passE (pa_cons (pv 3) pa_nil)) pa_nil)) (by rfl))
  (pss_cons (ps_if (PW.pt (pw_or (pt_cmpR (op_neDK (K := K) rfl hr.units) (pe_cal c_tree hr (by first | decide | omega) (by rfl) passE (pa_cons (pv 5) pa_nil)) (pv 6) (nomark _)) (pw_or1 (pt_cmpR (op_neDK (K := K) rfl hr.units) (pe_callB (cr_sortedDa (K := K) rfl (hu60 hr)) (by rfl) B.sorted (by decide +kernel) (pa_cons (pe_cal c_strong_sets hr (by first | decide | omega) (by rfl) passE (pa_cons (pv 5) pa_nil)) pa_nil)) (pe_callB (cr_sortedDa (K := K) rfl (hu60 hr)) (by rfl) B.sorted (by decide +kernel) (pa_cons (pe_cal c_law_tree_sets hr (by first | decide | omega) (by rfl) passE (pa_cons (pv 6) pa_nil)) pa_nil)) (nomark _))))) (pss_one (ps_ret pe_bl)) pss_nil)
  (pss_cons (ps_if (pt_not (pt_val (pe_cal c_law_says hr (by first | decide | omega) (by rfl) passE (pa_cons (pe_cal c_is_of hr (by first | decide | omega) (by rfl) passE (pa_cons (pv 5) (pa_cons pe_str pa_nil))) (pa_cons (pe_cal c_law_goes hr (by first | decide | omega) (by rfl) passE (pa_cons (pv 3) (pa_cons pe_bl pa_nil))) pa_nil))))) (pss_one (ps_ret pe_bl)) pss_nil)
  (pss_one (ps_ret (pe_cal c_law_says hr (by first | decide | omega) (by rfl) passE (pa_cons (pe_cal c_is_of hr (by first | decide | omega) (by rfl) passE (pa_cons (pv 5) (pa_cons pe_str pa_nil))) (pa_cons (pe_cal c_law_goes hr (by first | decide | omega) (by rfl) passE (pa_cons (pv 3) (pa_cons pe_bl pa_nil))) pa_nil))))))))))))), ?_⟩
  · rintro vs H Q E ⟨a, ns, rfl, _⟩
    rfl
  · obtain ⟨a, ns, rfl, hS, hn, q⟩ := h
    refine ⟨_, rfl, a, ns, rfl, hS, hn, fun b l H1 s1 hb => ?_⟩
    refine ⟨_, rfl, b, l, 14, rfl, hb, by decide, by decide, fun r H2 r0 r1 k2 => ⟨_, _, rfl, rfl, ?_⟩⟩
    obtain ⟨n, hn1, hn14, en⟩ : ∃ n : Nat, 1 ≤ n ∧ n ≤ 14 ∧ 1 + r = n := ⟨(1 + r).toNat, by omega, by omega, by omega⟩
    show gName 2 (.int (1 + r)) _ _ _
    rw [en]
    refine ⟨_, rfl, _, rfl, _, rfl, b, l, n, rfl, by omega, k2.box, fun rv xs H3 pm hw k3 => ?_⟩
    obtain ⟨rr, ro, rfl, hr3, rod⟩ := id hw
    have lx : xs.length = n := by rw [pm.length_eq, List.length_range]
    refine ⟨rr, _, rfl, .inr (.inl (.inr ⟨ro, hr3⟩)), fun pa hpa => ?_⟩
    have x4 := same_laid (o := .lst (xs.map pI)) hpa
    have hb4 := k3.box.same x4
    have npa : pa ≠ b := fun e => by
      obtain ⟨c0, c1, c2, ns', g1, _, _⟩ := k3.box
      rw [e, g1] at hpa
      cases hpa
    refine ⟨b, l, pa, xs, "", rfl, hb4, upd_same, npa, (fun e => by rw [e] at lx; simp at lx; omega), by omega, by omega, fun dv d H5 hd fit ept hgt _ k5 => ?_⟩
    subst ept
    have nd0 : d.pts.Nodup := pm.nodup_iff.mpr List.nodup_range
    have lt0 : ∀ x ∈ d.pts, x < n := fun x hx => List.mem_range.mp (pm.mem_iff.mp hx)
    refine fun o ho => ?_
    have x6 := same_laid (o := .dT []) ho
    have hd6 : DrV (fun _ => True) (upd H5 o (.dT [])) dv d := hd.keep (fun _ _ => trivial) (.of x6)
    refine ⟨_, rfl, _, rfl, fun _ => True, dv, d, o, [], rfl, hd6, hgt, by decide, nd0, (fun x hx => by have := lt0 x hx; omega), upd_same, KeysIn.nil, fun rs kvs H7 s7 _ _ ho7 _ hh => ?_⟩
    have hh' : ∀ q, hasP kvs q = true ↔ TieD d q := fun q => (hh q).trans ⟨fun h => h.elim (fun k => nomatch k) id, .inr⟩
    have hd7 : DrV (fun _ => True) H7 dv d := hd6.keep (fun _ _ => trivial) fun a u _ h hu => s7 a u h fun e => by
      rw [e, upd_same] at h
      exact hu _ (Option.some.inj h).symm
    refine ⟨_, rfl, _, rfl, n, o, kvs, rfl, by omega, ho7, fun nv H8 s8 hN => ?_⟩
    have ok := drawn_ok fit pm hh'
    have hg : Good n ((allPairs n).filter (either kvs)) := Good.filter _
    generalize (allPairs n).filter (either kvs) = ties at hN ok hg
    have SY := syM_of hg
    have hd8 := hd7.keep (fun _ _ => trivial) (.of s8)
    have ln : d.pts.length = n := lx
    refine ⟨_, rfl, fun _ => True, dv, d, tieT ties, rfl, hd8, SY, ok, hgt, nd0, (fun x hx => by have := lt0 x hx; omega), by omega, by decide, fun dv' L D H9 s9 tn due => ⟨_, _, rfl, ?_⟩⟩
    have eL := rise_range due.rising (due.perm.trans pm)
    subst eL
    obtain ⟨Ss, mt⟩ := DOk.mtr SY due ok
    have lr : (List.range n).length = n := List.length_range
    have hN9 := hN.keep (sKt s9)
    have hd9 := hd8.keep (fun _ _ => trivial) (.of s9)
    refine ⟨_, rfl, nv, n, ties, rfl, hN9, by omega, hn14, hg, fun n0 => absurd n0 (by omega), fun _ tv H10 s10 hm => ?_⟩
    obtain ⟨d2, S2, tn2, mt2⟩ := hm
    obtain ⟨e1, e2⟩ := mt2.uniq mt
    subst e1
    subst e2
    have shD := sh_mtr mt (by omega)
    have tn10 := tn.keep (sKt s10) (Nat.le_refl _)
    have hN10 := hN9.keep (sKt s10)
    refine ⟨_, rfl, d2, d2, tn2.dp, tn10.dp, shD, shD, _, rfl, ?_⟩
    rw [eqv_sh shD]
    refine iteF ?_
    refine ⟨_, rfl, nv, n, ties, rfl, hN10, by omega, hn14, hg, fun ts us S H11 s11 hts pr11 _ e2 => ?_⟩
    obtain ⟨d3, mt3⟩ := e2 (by omega)
    obtain ⟨e1, e2⟩ := mt3.uniq mt
    subst e1
    subst e2
    have ne : ∀ l ∈ S, l ≠ [] := fun l hl e => by
      obtain ⟨x, _, hx⟩ := ((mt.sets l).mp hl).2.ne
      rw [e] at hx
      cases hx
    refine tnil_in ?_
    refine srtPts (.inr hts) pr11 ne fun p12 zs H12 s12 _ hp12 pr12 => ?_
    have tn12 := tn10.keep (sKt (s11.trans s12)) (Nat.le_refl _)
    refine ⟨_, rfl, dv', d3, tieT ties, List.range n, S, rfl, tn12, mt, by omega, by omega, fun r13 us13 H13 s13 hr13 pr13 => ?_⟩
    refine tnil_in ?_
    refine srtPts (.inl (SqL.of hr13)) pr13 ne fun p14 zs14 H14 s14 _ hp14 pr14 => ?_
    have s1214 := s13.trans s14
    refine ⟨.list _, .list _, .lst (SqL.of (s1214 _ _ hp12)) (ptC_dp (pMono persPtC (sKt s1214) pr12)), .lst (SqL.of hp14) (ptC_dp pr14), sh_rowsL _, sh_rowsL _, _, rfl, ?_⟩
    rw [eqv_sh (sh_rowsL _)]
    refine iteF ?_
    have s914 := s10.trans (s11.trans (s12.trans s1214))
    have hN14 := hN9.keep (sKt s914)
    have hd14 := hd9.keep (fun _ _ => trivial) (.of s914)
    refine ⟨_, rfl, .co, nv, n, ties, rfl, hN14, by omega, hn14, hg, fun ans H15 s15 hans => ?_⟩
    have hd15 := hd14.keep (fun _ _ => trivial) (.of s15)
    refine ⟨_, rfl, fun _ => True, dv, d, false, rfl, hd15, hgt, by omega, fun H16 s16 => ?_⟩
    have e3 : ans = d.goes false := by
      rw [Bool.eq_iff_iff, hans, ← ok.row SY, p4_perm pm]
      exact Iff.rfl
    refine ⟨_, _, rfl, ?_⟩
    rw [e3, beq_self_eq_true]
    refine ⟨_, rfl, iteF ?_⟩
    have hd16 := hd15.keep (fun _ _ => trivial) (.of s16)
    have hN16 := hN14.keep (sKt (s15.trans s16))
    refine ⟨_, rfl, .ar, nv, n, ties, rfl, hN16, by omega, hn14, hg, fun ans2 H17 s17 hans2 => ?_⟩
    have hd17 := hd16.keep (fun _ _ => trivial) (.of s17)
    refine ⟨_, rfl, fun _ => True, dv, d, true, rfl, hd17, hgt, by omega, fun H18 s18 => ⟨_, _, rfl, ?_⟩⟩
    have e5 : arT (tieT ties) d.pts = fun x y => tieT ties x y = true := by
      funext x y
      refine propext ⟨fun h => h.2.2, fun h => ?_⟩
      obtain ⟨hx, hy⟩ := tie_lt hg h
      exact ⟨pm.mem_iff.mpr (List.mem_range.mpr hx), pm.mem_iff.mpr (List.mem_range.mpr hy), h⟩
    have e4 : ans2 = d.goes true := by
      rw [Bool.eq_iff_iff, hans2, ← ok.arrows SY, e5]
      exact Iff.rfl
    rw [e4, beq_self_eq_true]
    exact q _
end
end Ns

namespace Ns
open PySem PySem.Spec PyProof.Rows L2 LamX
section
variable {K : PySem.W.Frag} {h : Heap} {mg : Str → Option Value}
theorem at_is_number (X : K.In h) (G : h.Ns mainGlobals mg) (c : SaysX fx fn K) : At K mg "is_number" s_is_number := by
  obtain ⟨fd, F⟩ := c.def_ 0 (d := d_is_number)
  exact ⟨_, fd, F, He.glo_ok X G (c.fact 7)⟩
theorem at_is_pair (X : K.In h) (G : h.Ns mainGlobals mg) (c : SaysX fx fn K) : At K mg "is_pair" s_is_pair := by
  obtain ⟨fd, F⟩ := c.def_ 1 (d := d_is_pair)
  exact ⟨_, fd, F, He.glo_ok X G (c.fact 8)⟩
theorem at_is_net (X : K.In h) (G : h.Ns mainGlobals mg) (c : SaysX fx fn K) : At K mg "is_net" s_is_net := by
  obtain ⟨fd, F⟩ := c.def_ 2 (d := d_is_net)
  exact ⟨_, fd, F, He.glo_ok X G (c.fact 9)⟩
theorem at_check_net (X : K.In h) (G : h.Ns mainGlobals mg) (c : SaysX fx fn K) : At K mg "check_net" s_check_net := by
  obtain ⟨fd, F⟩ := c.def_ 3 (d := d_check_net)
  exact ⟨_, fd, F, He.glo_ok X G (c.fact 10)⟩
theorem at_matrix (X : K.In h) (G : h.Ns mainGlobals mg) (c : SaysX fx fn K) : At K mg "matrix" s_matrix := by
  obtain ⟨fd, F⟩ := c.def_ 4 (d := d_matrix)
  exact ⟨_, fd, F, He.glo_ok X G (c.fact 11)⟩
theorem at_opposite (X : K.In h) (G : h.Ns mainGlobals mg) (c : SaysX fx fn K) : At K mg "opposite" s_opposite := by
  obtain ⟨fd, F⟩ := c.def_ 5 (d := d_opposite)
  exact ⟨_, fd, F, He.glo_ok X G (c.fact 12)⟩
theorem at_pieces_by (X : K.In h) (G : h.Ns mainGlobals mg) (c : SaysX fx fn K) : At K mg "pieces_by" s_pieces_by := by
  obtain ⟨fd, F⟩ := c.def_ 6 (d := d_pieces_by)
  exact ⟨_, fd, F, He.glo_ok X G (c.fact 13)⟩
theorem at_in_a_row (X : K.In h) (G : h.Ns mainGlobals mg) (c : SaysX fx fn K) : At K mg "_in_a_row" s_in_a_row := by
  obtain ⟨fd, F⟩ := c.def_ 7 (d := d_in_a_row)
  exact ⟨_, fd, F, He.glo_ok X G (c.fact 14)⟩
theorem at_cograph (X : K.In h) (G : h.Ns mainGlobals mg) (c : SaysX fx fn K) : At K mg "_cograph" s_cograph := by
  obtain ⟨fd, F⟩ := c.def_ 8 (d := d_cograph)
  exact ⟨_, fd, F, He.glo_ok X G (c.fact 15)⟩
theorem at_cograph_of (X : K.In h) (G : h.Ns mainGlobals mg) (c : SaysX fx fn K) : At K mg "cograph_of" s_cograph_of := by
  obtain ⟨fd, F⟩ := c.def_ 9 (d := d_cograph_of)
  exact ⟨_, fd, F, He.glo_ok X G (c.fact 16)⟩
theorem at_alike_with (X : K.In h) (G : h.Ns mainGlobals mg) (c : SaysX fx fn K) : At K mg "_alike_with" s_alike_with := by
  obtain ⟨fd, F⟩ := c.def_ 10 (d := d_alike_with)
  exact ⟨_, fd, F, He.glo_ok X G (c.fact 17)⟩
theorem at_greatest_alike (X : K.In h) (G : h.Ns mainGlobals mg) (c : SaysX fx fn K) : At K mg "_greatest_alike" s_greatest_alike := by
  obtain ⟨fd, F⟩ := c.def_ 11 (d := d_greatest_alike)
  exact ⟨_, fd, F, He.glo_ok X G (c.fact 18)⟩
theorem at_utree (X : K.In h) (G : h.Ns mainGlobals mg) (c : SaysX fx fn K) : At K mg "_tree" s_utree := by
  obtain ⟨fd, F⟩ := c.def_ 12 (d := d_utree)
  exact ⟨_, fd, F, He.glo_ok X G (c.fact 19)⟩
theorem at_tree (X : K.In h) (G : h.Ns mainGlobals mg) (c : SaysX fx fn K) : At K mg "tree" s_tree := by
  obtain ⟨fd, F⟩ := c.def_ 13 (d := d_tree)
  exact ⟨_, fd, F, He.glo_ok X G (c.fact 20)⟩
theorem at_points_of (X : K.In h) (G : h.Ns mainGlobals mg) (c : SaysX fx fn K) : At K mg "points_of" s_points_of := by
  obtain ⟨fd, F⟩ := c.def_ 14 (d := d_points_of)
  exact ⟨_, fd, F, He.glo_ok X G (c.fact 21)⟩
theorem at_sets (X : K.In h) (G : h.Ns mainGlobals mg) (c : SaysX fx fn K) : At K mg "_sets" s_sets := by
  obtain ⟨fd, F⟩ := c.def_ 15 (d := d_sets)
  exact ⟨_, fd, F, He.glo_ok X G (c.fact 22)⟩
theorem at_strong_sets (X : K.In h) (G : h.Ns mainGlobals mg) (c : SaysX fx fn K) : At K mg "strong_sets" s_strong_sets := by
  obtain ⟨fd, F⟩ := c.def_ 16 (d := d_strong_sets)
  exact ⟨_, fd, F, He.glo_ok X G (c.fact 23)⟩
theorem at_forced (X : K.In h) (G : h.Ns mainGlobals mg) (c : SaysX fx fn K) : At K mg "forced" s_forced := by
  obtain ⟨fd, F⟩ := c.def_ 17 (d := d_forced)
  exact ⟨_, fd, F, He.glo_ok X G (c.fact 24)⟩
theorem at_forced_from (X : K.In h) (G : h.Ns mainGlobals mg) (c : SaysX fx fn K) : At K mg "forced_from" s_forced_from := by
  obtain ⟨fd, F⟩ := c.def_ 18 (d := d_forced_from)
  exact ⟨_, fd, F, He.glo_ok X G (c.fact 25)⟩
theorem at_chain (X : K.In h) (G : h.Ns mainGlobals mg) (c : SaysX fx fn K) : At K mg "_chain" s_chain := by
  obtain ⟨fd, F⟩ := c.def_ 19 (d := d_chain)
  exact ⟨_, fd, F, He.glo_ok X G (c.fact 26)⟩
theorem at_turned_round (X : K.In h) (G : h.Ns mainGlobals mg) (c : SaysX fx fn K) : At K mg "_turned_round" s_turned_round := by
  obtain ⟨fd, F⟩ := c.def_ 20 (d := d_turned_round)
  exact ⟨_, fd, F, He.glo_ok X G (c.fact 27)⟩
theorem at_arrows_of (X : K.In h) (G : h.Ns mainGlobals mg) (c : SaysX fx fn K) : At K mg "arrows_of" s_arrows_of := by
  obtain ⟨fd, F⟩ := c.def_ 21 (d := d_arrows_of)
  exact ⟨_, fd, F, He.glo_ok X G (c.fact 28)⟩
theorem at_by_arrows (X : K.In h) (G : h.Ns mainGlobals mg) (c : SaysX fx fn K) : At K mg "_by_arrows" s_by_arrows := by
  obtain ⟨fd, F⟩ := c.def_ 22 (d := d_by_arrows)
  exact ⟨_, fd, F, He.glo_ok X G (c.fact 29)⟩
theorem at_lines_of (X : K.In h) (G : h.Ns mainGlobals mg) (c : SaysX fx fn K) : At K mg "lines_of" s_lines_of := by
  obtain ⟨fd, F⟩ := c.def_ 23 (d := d_lines_of)
  exact ⟨_, fd, F, He.glo_ok X G (c.fact 30)⟩
theorem at_check_kind (X : K.In h) (G : h.Ns mainGlobals mg) (c : SaysX fx fn K) : AtD K mg "check_kind" s_check_kind (d_check_kind.dvs K) := by
  obtain ⟨fd, F⟩ := c.def_ 24 (d := d_check_kind)
  exact ⟨_, fd, F, He.glo_ok X G (c.fact 31)⟩
theorem at_tell (X : K.In h) (G : h.Ns mainGlobals mg) (c : SaysX fx fn K) : At K mg "tell" s_tell := by
  obtain ⟨fd, F⟩ := c.def_ 25 (d := d_tell)
  exact ⟨_, fd, F, He.glo_ok X G (c.fact 32)⟩
theorem at_is_of (X : K.In h) (G : h.Ns mainGlobals mg) (c : SaysX fx fn K) : At K mg "is_of" s_is_of := by
  obtain ⟨fd, F⟩ := c.def_ 26 (d := d_is_of)
  exact ⟨_, fd, F, He.glo_ok X G (c.fact 33)⟩
theorem at_law_box (X : K.In h) (G : h.Ns mainGlobals mg) (c : SaysX fx fn K) : At K mg "_law_box" s_law_box := by
  obtain ⟨fd, F⟩ := c.def_ 27 (d := d_law_box)
  exact ⟨_, fd, F, He.glo_ok X G (c.fact 34)⟩
theorem at_law_take (X : K.In h) (G : h.Ns mainGlobals mg) (c : SaysX fx fn K) : At K mg "_law_take" s_law_take := by
  obtain ⟨fd, F⟩ := c.def_ 28 (d := d_law_take)
  exact ⟨_, fd, F, He.glo_ok X G (c.fact 35)⟩
theorem at_law_pick (X : K.In h) (G : h.Ns mainGlobals mg) (c : SaysX fx fn K) : At K mg "_law_pick" s_law_pick := by
  obtain ⟨fd, F⟩ := c.def_ 29 (d := d_law_pick)
  exact ⟨_, fd, F, He.glo_ok X G (c.fact 36)⟩
theorem at_law_pairs (X : K.In h) (G : h.Ns mainGlobals mg) (c : SaysX fx fn K) : At K mg "_law_pairs" s_law_pairs := by
  obtain ⟨fd, F⟩ := c.def_ 30 (d := d_law_pairs)
  exact ⟨_, fd, F, He.glo_ok X G (c.fact 37)⟩
theorem at_law_made (X : K.In h) (G : h.Ns mainGlobals mg) (c : SaysX fx fn K) : At K mg "_law_made" s_law_made := by
  obtain ⟨fd, F⟩ := c.def_ 31 (d := d_law_made)
  exact ⟨_, fd, F, He.glo_ok X G (c.fact 38)⟩
theorem at_law_row (X : K.In h) (G : h.Ns mainGlobals mg) (c : SaysX fx fn K) : At K mg "_law_row" s_law_row := by
  obtain ⟨fd, F⟩ := c.def_ 32 (d := d_law_row)
  exact ⟨_, fd, F, He.glo_ok X G (c.fact 39)⟩
theorem at_law_tree_points (X : K.In h) (G : h.Ns mainGlobals mg) (c : SaysX fx fn K) : At K mg "_law_tree_points" s_law_tree_points := by
  obtain ⟨fd, F⟩ := c.def_ 33 (d := d_law_tree_points)
  exact ⟨_, fd, F, He.glo_ok X G (c.fact 40)⟩
theorem at_law_tree_sets (X : K.In h) (G : h.Ns mainGlobals mg) (c : SaysX fx fn K) : At K mg "_law_tree_sets" s_law_tree_sets := by
  obtain ⟨fd, F⟩ := c.def_ 34 (d := d_law_tree_sets)
  exact ⟨_, fd, F, He.glo_ok X G (c.fact 41)⟩
theorem at_law_says (X : K.In h) (G : h.Ns mainGlobals mg) (c : SaysX fx fn K) : At K mg "_law_says" s_law_says := by
  obtain ⟨fd, F⟩ := c.def_ 35 (d := d_law_says)
  exact ⟨_, fd, F, He.glo_ok X G (c.fact 42)⟩
theorem at_law_prime (X : K.In h) (G : h.Ns mainGlobals mg) (c : SaysX fx fn K) : At K mg "_law_prime" s_law_prime := by
  obtain ⟨fd, F⟩ := c.def_ 36 (d := d_law_prime)
  exact ⟨_, fd, F, He.glo_ok X G (c.fact 43)⟩
theorem at_law_drawn_tree (X : K.In h) (G : h.Ns mainGlobals mg) (c : SaysX fx fn K) : At K mg "_law_drawn_tree" s_law_drawn_tree := by
  obtain ⟨fd, F⟩ := c.def_ 37 (d := d_law_drawn_tree)
  exact ⟨_, fd, F, He.glo_ok X G (c.fact 44)⟩
theorem at_law_are_tied (X : K.In h) (G : h.Ns mainGlobals mg) (c : SaysX fx fn K) : At K mg "_law_are_tied" s_law_are_tied := by
  obtain ⟨fd, F⟩ := c.def_ 38 (d := d_law_are_tied)
  exact ⟨_, fd, F, He.glo_ok X G (c.fact 45)⟩
theorem at_law_spread (X : K.In h) (G : h.Ns mainGlobals mg) (c : SaysX fx fn K) : At K mg "_law_spread" s_law_spread := by
  obtain ⟨fd, F⟩ := c.def_ 39 (d := d_law_spread)
  exact ⟨_, fd, F, He.glo_ok X G (c.fact 46)⟩
theorem at_law_due (X : K.In h) (G : h.Ns mainGlobals mg) (c : SaysX fx fn K) : At K mg "_law_due" s_law_due := by
  obtain ⟨fd, F⟩ := c.def_ 40 (d := d_law_due)
  exact ⟨_, fd, F, He.glo_ok X G (c.fact 47)⟩
theorem at_law_goes (X : K.In h) (G : h.Ns mainGlobals mg) (c : SaysX fx fn K) : At K mg "_law_goes" s_law_goes := by
  obtain ⟨fd, F⟩ := c.def_ 41 (d := d_law_goes)
  exact ⟨_, fd, F, He.glo_ok X G (c.fact 48)⟩
theorem at_neighbours_arrows (X : K.In h) (G : h.Ns mainGlobals mg) (c : SaysX fx fn K) : AtN K mg "neighbours_arrows" "neighbours" s_neighbours_arrows := by
  obtain ⟨fd, F⟩ := c.def_ 42 (d := d_neighbours_arrows)
  exact ⟨_, fd, F, He.glo_ok X G (c.fact 49)⟩
theorem at_law (X : K.In h) (G : h.Ns mainGlobals mg) (c : SaysX fx fn K) : At K mg "law" s_law := by
  obtain ⟨fd, F⟩ := c.def_ 43 (d := d_law)
  exact ⟨_, fd, F, He.glo_ok X G (c.fact 50)⟩
end
theorem law_facts {P : Program} {w : World} {K : PySem.W.Frag} {h : Heap} {mg : Str → Option Value} {f : Addr} (X : K.In h) (G : h.Ns mainGlobals mg) (hfa : mg ("law" : Str) = some (.ref f)) (c0 : SaysXT fx fn ts w K) :
    ∃ fd : FuncData, (∀ (s : Shared) (v : Value), BindsTo s fd ⟨[v], []⟩ [("script", v)]) ∧ ∀ base : Heap, K.In base → base.Ns mainGlobals mg → FnOk P w K mg base (L2.CX P w) 31 f fd ["script"] (sp_law K) := by
  have c := c0.x
  obtain ⟨f2, fd, F, hm⟩ := (at_law X G c).ex
  have e := hfa.symm.trans hm
  cases e
  have b := FunD.bindsA (ps := ["script"]) F fun _ _ _ _ _ _ us hl => match us, hl with | [_], _ => rfl
  refine ⟨fd, fun s v => b s [v] rfl, fun base _ _ => ?_⟩
  have B : Bi mg := bi_of X G (c.fact 0)
  have x_BadNet : ExcC K mg "BadNet" (He.ga K "BadNet") := excC_of X G (c.fact 1)
  have x_BadKind : ExcC K mg "BadKind" (He.ga K "BadKind") := excC_of X G (c.fact 2)
  have x_BadPoint : ExcC K mg "BadPoint" (He.ga K "BadPoint") := excC_of X G (c.fact 3)
  have iM : ∃ t, mg "MOST" = some (.int 40 t) := He.int_ok X G (c.fact 4)
  obtain ⟨g_KINDS, s_KINDS⟩ := strs_ok X G (c.fact 5)
  obtain ⟨g_TELLERS, v_TELLERS⟩ := He.ba (show ((He.Fa.glo "TELLERS").ok K && He.valsB K (He.ga K "TELLERS") [("cograph", .glo "cograph_of"), ("arrows", .glo "arrows_of"), ("lines", .glo "lines_of")]) = true from c.fact 6)
  obtain ⟨es_TELLERS, em_TELLERS, KD_TELLERS⟩ := c0.tab 0
  have kd_TELLERS_cograph : KDct K w (He.ga K "TELLERS") "cograph" (.ref (He.ga K "cograph_of")) := kdct_of KD_TELLERS v_TELLERS (List.mem_cons_self ..)
  have kd_TELLERS_arrows : KDct K w (He.ga K "TELLERS") "arrows" (.ref (He.ga K "arrows_of")) := kdct_of KD_TELLERS v_TELLERS (List.mem_cons_of_mem _ (List.mem_cons_self ..))
  have kd_TELLERS_lines : KDct K w (He.ga K "TELLERS") "lines" (.ref (He.ga K "lines_of")) := kdct_of KD_TELLERS v_TELLERS (List.mem_cons_of_mem _ (List.mem_cons_of_mem _ (List.mem_cons_self ..)))
  have v_cal_box := cal_box (P := P) (w := w) (base := base) (at_law_box X G c) B
  have v_cal_take := cal_take (P := P) (w := w) (base := base) (at_law_take X G c) B
  have v_cal_row := cal_row (P := P) (w := w) (base := base) (at_law_row X G c) B v_cal_take
  have v_cal_pick := cal_pick (P := P) (w := w) (base := base) (at_law_pick X G c) B v_cal_take
  have v_cal_prime := cal_prime (P := P) (w := w) (base := base) (at_law_prime X G c) B v_cal_take
  have v_cal_drawn := cal_drawn (P := P) (w := w) (base := base) (at_law_drawn_tree X G c) B v_cal_take v_cal_pick v_cal_prime
  have v_cal_are_tied := cal_are_tied (P := P) (w := w) (base := base) (at_law_are_tied X G c) B
  have v_cal_spread := cal_spread (P := P) (w := w) (base := base) (n := 14) (at_law_spread X G c) B v_cal_are_tied
  have v_cal_pairs := cal_pairs (P := P) (w := w) (base := base) (at_law_pairs X G c) B
  have v_cal_made := cal_made (P := P) (w := w) (base := base) (at_law_made X G c) B v_cal_pairs
  have v_cal_ltp := cal_ltp (P := P) (w := w) (base := base) (at_law_tree_points X G c) B
  have v_cal_duet := cal_duet (P := P) (w := w) (base := base) (G := 14) (at_law_due X G c) B (v_cal_ltp 14)
  have v_cal_is_number := cal_is_number (P := P) (w := w) (base := base) (at_is_number X G c) B
  have v_cal_is_pair := cal_is_pair (P := P) (w := w) (base := base) (at_is_pair X G c) B v_cal_is_number
  have v_cal_is_net := cal_is_net (P := P) (w := w) (base := base) (at_is_net X G c) B iM v_cal_is_number v_cal_is_pair
  have v_cal_check_net := cal_check_net (P := P) (w := w) (base := base) (at_check_net X G c) x_BadNet v_cal_is_net
  have v_cal_matrix := cal_matrix (P := P) (w := w) (base := base) (at_matrix X G c) B
  have v_cal_pieces_by := cal_pieces_by (P := P) (w := w) (base := base) (at_pieces_by X G c) B
  have v_cal_alike_with := cal_alike_with (P := P) (w := w) (base := base) (at_alike_with X G c) B
  have v_cal_greatest := cal_greatest (P := P) (w := w) (base := base) (at_greatest_alike X G c) B v_cal_alike_with
  have v_cal_utree := cal_utree (P := P) (w := w) (base := base) (at_utree X G c) B v_cal_pieces_by v_cal_greatest
  have v_cal_tree := cal_tree (P := P) (w := w) (base := base) (by omega) (at_tree X G c) B v_cal_check_net v_cal_matrix (v_cal_utree 14)
  have v_cal_sets := cal_sets (P := P) (w := w) (base := base) (at_sets X G c) B (at_points_of X G c)
  have v_cal_strong_sets := cal_strong_sets (P := P) (w := w) (base := base) (at_strong_sets X G c) B v_cal_tree (v_cal_sets 14)
  have v_cal_lts := cal_lts (P := P) (w := w) (base := base) (at_law_tree_sets X G c) B (at_law_tree_points X G c)
  have v_cal_says := cal_says (P := P) (w := w) (base := base) (at_law_says X G c) B
  have v_cal_check_kind := cal_check_kind (P := P) (w := w) (base := base) (at_check_kind X G c) B x_BadKind
  have v_cal_in_a_row := cal_in_a_row (P := P) (w := w) (base := base) (at_in_a_row X G c) B
  have v_cal_cograph := cal_cograph (P := P) (w := w) (base := base) (at_cograph X G c) B v_cal_pieces_by v_cal_in_a_row
  have v_cal_cograph_of := cal_cograph_of (P := P) (w := w) (base := base) (at_cograph_of X G c) B v_cal_matrix (v_cal_cograph 14)
  have v_cal_nearA := cal_nearA (P := P) (w := w) (base := base) (at_neighbours_arrows X G c) B
  have v_cal_forced := cal_forced (P := P) (w := w) (base := base) (at_forced X G c) B
  have v_cal_ffrom := cal_ffrom (P := P) (w := w) (base := base) (at_forced_from X G c) B v_cal_forced
  have v_cal_chain := cal_chain (P := P) (w := w) (base := base) (at_chain X G c) B
  have v_cal_tround := cal_tround (P := P) (w := w) (base := base) (at_turned_round X G c) B v_cal_nearA v_cal_ffrom v_cal_chain
  have v_cal_arrows_of := cal_arrows_of (P := P) (w := w) (base := base) (at_arrows_of X G c) B v_cal_tround v_cal_nearA v_cal_ffrom
  have v_cal_opposite := cal_opposite (P := P) (w := w) (base := base) (at_opposite X G c) B v_cal_check_net
  have v_cal_by_arrows := cal_by_arrows (P := P) (w := w) (base := base) (at_by_arrows X G c) B
  have v_cal_lines_of := cal_lines_of (P := P) (w := w) (base := base) (at_lines_of X G c) B v_cal_arrows_of v_cal_opposite v_cal_by_arrows
  have v_cal_tell26 := cal_tell26 (P := P) (w := w) (base := base) (kT := 17) (g := 14) (fk := fun k => He.ga K (of26 k)) (by decide) (at_tell X G c) B v_cal_check_net v_cal_check_kind s_KINDS (fun k => by cases k <;> decide +kernel) (He.glo_ok X G g_TELLERS) (fun k => match k with | .co => kd_TELLERS_cograph | .ar => kd_TELLERS_arrows | .li => kd_TELLERS_lines) (fun k => match k with | .co => He.glo_ok X G (c.fact 16) | .ar => He.glo_ok X G (c.fact 28) | .li => He.glo_ok X G (c.fact 30)) (fun k => match k with | .co => of26C v_cal_cograph_of | .ar => of26A (v_cal_arrows_of.mono (by decide)) | .li => of26L (v_cal_lines_of.mono (by decide)))
  have v_cal_isof26 := cal_isof26 (P := P) (w := w) (base := base) (at_is_of X G c) B v_cal_tell26
  have v_cal_goes := cal_goes (P := P) (w := w) (base := base) (at_law_goes X G c) B
  exact ok_law F B v_cal_box v_cal_take v_cal_row (v_cal_drawn 13) (v_cal_spread 13) v_cal_made (v_cal_duet 13) v_cal_tree v_cal_strong_sets (v_cal_lts 14) v_cal_says v_cal_isof26 (v_cal_goes 13)
end Ns
open PySem PySem.W PySem.Calls PyProof.Rows
theorem PySem.Challenge.cw_netstory_k20_trees_as_they_were_built_holds : PySem.Challenge.rw_netstory_k20_trees_as_they_were_built.Holds := by
  w_on; o_law
  refine HandSHeadRun.head_any (r := OpenLaw.row PySem.Challenge.rw_netstory_k20_trees_as_they_were_built) (q := view (OpenLaw.row PySem.Challenge.rw_netstory_k20_trees_as_they_were_built).prog [113])
    (H := Ns.hk) (ob := Ns.ob) (M := 20000) (loose := Ns.loose) (kwd := [])
    (d := HandSHeadRun.topDef (OpenLaw.row PySem.Challenge.rw_netstory_k20_trees_as_they_were_built).prog 113) Ns.ob_eq
    (by kernel_rfl) (fun s => by kernel_rfl) Ns.head_run (by kernel_rfl) (by kernel_rfl) (by kernel_rfl)
    (by rfl) (by first | assumption | decide +kernel) (by decide +kernel)
    ⟨rfl, rfl, rfl, rfl, rfl, by decide +kernel⟩ ?hw ?hc
  case hw => w_witness2
  case hc =>
    refine Ns.end_walk (l := PySem.Challenge.rw_netstory_k20_trees_as_they_were_built) (n := 63) (k := 31) (x := "script")
      rfl (by decide) (by kernel_rfl) ⟨rfl, by decide, by decide⟩ ?F
    rintro w mg fa h ⟨K, KX, c⟩ G hmg0
    have hmg : mg ("law" : PySem.Str) = some (.ref fa) := by
      have e : (HandSHeadRun.topDef (OpenLaw.row PySem.Challenge.rw_netstory_k20_trees_as_they_were_built).prog 113).name = ("law" : PySem.Str) := by kernel_rfl
      rw [← e]
      exact hmg0
    obtain ⟨fd, hb, hF⟩ := Ns.law_facts (P := (PySem.Challenge.rw_netstory_k20_trees_as_they_were_built).prog) (w := w) KX G hmg c
    exact ⟨K, fd, Ns.sp_law K, KX, hb, fun H a ns hl hS => ⟨a, ns, rfl, hS, hl, fun _ => rfl⟩, hF⟩

