import PyProof.Rows.All
import Wide.All
import OpenK.AllK
import Wide.FinOn
import KE.KStateDown
import Lean
import HandS.ForMost
import HandS.ForExc
import HandS.Deep
import HandS.Defaults
import HandS.IsInst
import HandS.More
import HandS.Flow
import HandS.SetKeys
import HandS.Strs
import HandS.Sort
import HandS.SortInts
import HandS.SortRule
import HandS.TupAny
import HandS.TupLe
import HandS.Conv
import HandS.Rev
import HandS.DictTup
import HandS.RaiseOp
import HandS.Head0
import HandS.Head1
import HandS.Head2
import HandS.HeadEnd
import HandS.HeadHook1
import HandS.HeadHook2
import HandS.Codes
import KE.KDictPairs
import HandS.Walk
import KE.GoesMore
import PySem.Challenge.RW_netstory_k34_nearest_by_going_through_al
set_option Elab.async false
set_option linter.all false
set_option maxRecDepth 100000
set_option maxHeartbeats 0
/-! Own layer A: chains of three comparisons, three names at once, calls of defs that may raise, facts by any test. -/
namespace Ns
open PySem PySem.Spec PyProof.Rows L2
section
variable {X : Cx} {a b c d : Expr} {ta tb tc td : TE} {pos : Pos}
def tChain3 (r r' r2 : R2) (ta tb tc td : TE) : TE := fun σ H Q => ta σ H fun x H1 => tb σ H1 fun y H2 => r x y H2 fun z H3 => ∃ k, z = .bl k ∧
  (if k = true then tc σ H3 fun y' H4 => r' y y' H4 fun z' H5 => ∃ k', z' = .bl k' ∧ (if k' = true then td σ H5 fun y2 H6 => r2 y' y2 H6 Q else Q (.bl false) H5) else Q (.bl false) H3)
theorem pe_chain3 {op op' op2 : CmpOp} {r r' r2 : R2} (ho : OpR X (compareOp op) r) (ho' : OpR X (compareOp op') r') (ho2 : OpR X (compareOp op2) r2) (ha : PE X a ta) (hb : PE X b tb) (hc : PE X c tc) (hd : PE X d td)
    (hm : lastMarks [op, op', op2] [b, c, d] = false := by with_unfolding_all rfl) : PE X (.Compare a [op, op', op2] [b, c, d] pos) (tChain3 r r' r2 ta tb tc td) := by
  refine ⟨fun pins s σ H Q I h => ?_⟩
  refine Compare_chain (thn (ha.run pins s σ H _ I h) fun v s1 ⟨x, H1, I1, r1, q1⟩ => chain_link (thn (hb.run pins s1 σ H1 _ I1 q1) fun u s2 ⟨y, H2, I2, r2', q2⟩ =>
    thn (ho pins s2 σ H2 x y v u _ I2 r1 r2' q2) fun d s3 ⟨z, H3, I3, r3, k, e, q3⟩ => ?_)) hm
  subst e
  cases r3
  refine wpAny_truthy_bool ?_
  cases k with
  | false => exact ite_ff ⟨.bl false, H3, I3, rfl, q3⟩
  | true =>
    refine ite_tt (chain_link (thn (hc.run pins s3 σ H3 _ I3 q3) fun u' s4 ⟨y', H4, I4, r4, q4⟩ => thn (ho' pins s4 σ H4 y y' u u' _ I4 r2' r4 q4) fun d' s5 ⟨z', H5, I5, r5, k', e', q5⟩ => ?_))
    subst e'
    cases r5
    refine wpAny_truthy_bool ?_
    cases k' with
    | false => exact ite_ff ⟨.bl false, H5, I5, rfl, q5⟩
    | true => exact ite_tt (chain_last (thn (hd.run pins s5 σ H5 _ I5 q5) fun w' s6 ⟨z6, H6, I6, r6, q6⟩ => ho2 pins s6 σ H6 y' z6 u' w' Q I6 r4 r6 q6))
theorem pt_chain3 {op op' op2 : CmpOp} {r r' r2 : R2} (ho : OpR X (compareOp op) r) (ho' : OpR X (compareOp op') r') (ho2 : OpR X (compareOp op2) r2) (ha : PE X a ta) (hb : PE X b tb) (hc : PE X c tc) (hd : PE X d td)
    (hm : lastMarks [op, op', op2] [b, c, d] = false := by with_unfolding_all rfl) : PT X (.Compare a [op, op', op2] [b, c, d] pos) (tTest (tChain3 r r' r2 ta tb tc td)) := by
  refine ⟨fun pins s σ H Q I h => ?_⟩
  refine isTrue_chain (thn (ha.run pins s σ H _ I h) fun v s1 ⟨x, H1, I1, r1, q1⟩ => test_link (thn (hb.run pins s1 σ H1 _ I1 q1) fun u s2 ⟨y, H2, I2, r2', q2⟩ =>
    thn (ho pins s2 σ H2 x y v u _ I2 r1 r2' q2) fun d s3 ⟨z, H3, I3, r3, k, e, q3⟩ => ?_)) hm
  subst e
  cases r3
  refine wpAny_truthy_bool ?_
  cases k with
  | false =>
    obtain ⟨k', e', q'⟩ := q3
    cases e'
    exact ite_ff ⟨H3, I3, q'⟩
  | true =>
    refine ite_tt (test_link (thn (hc.run pins s3 σ H3 _ I3 q3) fun u' s4 ⟨y', H4, I4, r4, q4⟩ => thn (ho' pins s4 σ H4 y y' u u' _ I4 r2' r4 q4) fun d' s5 ⟨z', H5, I5, r5, k', e', q5⟩ => ?_))
    subst e'
    cases r5
    refine wpAny_truthy_bool ?_
    cases k' with
    | false =>
      obtain ⟨k2, e2, q2⟩ := q5
      cases e2
      exact ite_ff ⟨H5, I5, q2⟩
    | true =>
      refine ite_tt (test_last (thn (hd.run pins s5 σ H5 _ I5 q5) fun w' s6 ⟨z6, H6, I6, r6, q6⟩ => thn (ho2 pins s6 σ H6 y' z6 u' w' _ I6 r4 r6 q6) fun d7 s7 ⟨z7, H7, I7, r7, k2, e2, q7⟩ => ?_))
      subst e2
      cases r7
      exact wpAny_truthy_bool ⟨H7, I7, q7⟩
end
/-! ### a, b, c = x, y, z -/
section
variable {X : Cx} {pos : Pos}
def tPar3 (i j l : Nat) (ta : TA) : TS := fun D σ H => ta σ H fun vs H1 => ∃ u v w, vs = [u, v, w] ∧ D.nx (((σ.set i (some u)).set j (some v)).set l (some w)) H1
theorem ps_par3 {i j l : Nat} {x y z : Str} {a b c : Expr} {ta : TA} {px py pz pt : Pos} {kt k2 pt2} (hc : X.calm = true) (hN : X.N.Nodup) (hi : X.N[i]? = some x) (hj : X.N[j]? = some y) (hl : X.N[l]? = some z) (hij : i ≠ j) (hil : i ≠ l) (hjl : j ≠ l)
    (hx : X.env.scope.names.lookup x = some .local) (hy : X.env.scope.names.lookup y = some .local) (hz : X.env.scope.names.lookup z = some .local) (ha : PA X [a, b, c] ta)
    (hw : swappedStores [.Tuple [.Name x px, .Name y py, .Name z pz] kt pt] (.Tuple [a, b, c] k2 pt2) X.env = pure (some [x, y, z]))
    (hs : swapsWithSole [.Tuple [.Name x px, .Name y py, .Name z pz] kt pt] (.Tuple [a, b, c] k2 pt2) pos.line X.env = pure false := by rfl) :
    PS X (.Assign [.Tuple [.Name x px, .Name y py, .Name z pz] kt pt] (.Tuple [a, b, c] k2 pt2) pos) (tPar3 i j l ta) := by
  refine ⟨fun pins s σ H D I h => ?_⟩
  rw [exec_Assign_arm]
  refine wpAny_bind (wpAny_standAt ?_)
  rw [hs]
  refine wpAny_bind (wpAny_pure ?_)
  rw [if_neg (by decide)]
  refine wpAny_bind (Tuple_ (thn (ha.run _ pins s σ H _ I h) fun us s1 ⟨vs, H1, I1, r1, q1⟩ => ?_))
  obtain ⟨t, v, w, e1, q1⟩ := q1
  subst e1
  obtain ⟨u0, u1, u2, rfl, rt, rv, rw'⟩ : ∃ u0 u1 u2, us = [u0, u1, u2] ∧ RelV t u0 ∧ RelV v u1 ∧ RelV w u2 := by
    cases r1 with
    | cons p q =>
      cases q with
      | cons p' q' =>
        cases q' with
        | cons p2 q2 =>
          cases q2
          exact ⟨_, _, _, rfl, p, p', p2⟩
  refine wpAny_newObj_type ?_ (by show 3 ≤ sizeLine; decide)
  have I2 : Inv X pins σ H1 { s1 with heap := s1.heap.push { cls := .type "tuple", data := .seq [u0, u1, u2].toArray } } := I1.kept (t' := s1.toks) fun b o e => Heap.get?_push_of_some _ e
  rw [hw]
  refine wpAny_bind (wpAny_pure ?_)
  show wpAny (model X.prog X.w) X.A (do rule "assign.swapped-stores"; let items ← unpackItems (.ref s1.heap.objs.size) 3 none; assignInOrder [fun v => bindName X.env z v, fun v => bindName X.env y v, fun v => bindName X.env x v] items.reverse; pure Flow.next) _ _ _
  refine wpAny_bind (wpAny_rule (wpAny_bind (unpackItems_tuple (items := #[u0, u1, u2]) (I.ok.hd hc) (IsTup.new s1.heap _) fun h' hx' => ?_)))
  have I3 := I2.kept (h' := h') (t' := s1.toks) fun b o e => hx' b o (Nat.ne_of_lt (Heap.lt_size e)) e
  show wpAny _ _ (assignInOrder [fun v => bindName X.env z v, fun v => bindName X.env y v, fun v => bindName X.env x v] [u2, u1, u0] >>= fun _ => pure Flow.next) _ _ _
  refine wpAny_bind (assignInOrder_cons (wpAny_bindName (store_ok I3 hN hl (.inl hz) rw' (fun s2 I4 => ?_) (.inr hz))))
  refine assignInOrder_cons (wpAny_bindName (store_ok I4 hN hj (.inl hy) rv (fun s3 I5 => ?_) (.inr hy)))
  refine assignInOrder_cons (wpAny_bindName (store_ok I5 hN hi (.inl hx) rt (fun s4 I6 => assignInOrder_nil (wpAny_pure ?_)) (.inr hx)))
  have e : ((σ.set l (some w)).set j (some v)).set i (some t) = ((σ.set i (some t)).set j (some v)).set l (some w) := by
    rw [List.set_comm _ _ (Ne.symm hij), List.set_comm _ _ (Ne.symm hil), List.set_comm _ _ (Ne.symm hjl)]
  rw [e] at I6
  exact ⟨_, H1, I6, q1⟩
end
/-! ### a def of the module by its name: what it may let out is CX -/
section
variable {P : Program} {w : World} {K : PySem.W.Frag} {mg : Str → Option Value} {base : Heap}
/-- the module's name x is a def that keeps the promise sp, at level k -/
structure Cal (P : Program) (w : World) (K : PySem.W.Frag) (mg : Str → Option Value) (base : Heap) (k : Nat) (x : Str) (sp : Sp) : Prop where
  ex : ∃ (f : Addr) (fd : FuncData) (ps : List Str), FnOk P w K mg base (L2.CX P w) k f fd ps sp ∧ mg x = some (.ref f) ∧ PySem.W.keepIn K (.ref f) = true ∧ Binds K fd ps []
abbrev FnP (K : PySem.W.Frag) (x : Str) (st : Stmt) (f : Addr) (fd : FuncData) : Prop := FunD K x x (defArgs st) (defBody st) (defScope st) [] [] f fd
/-- where the def st stands under the name x -/
structure At (K : PySem.W.Frag) (mg : Str → Option Value) (x : Str) (st : Stmt) : Prop where
  ex : ∃ (f : Addr) (fd : FuncData), FnP K x st f fd ∧ mg x = some (.ref f)
theorem At.cal {x : Str} {st : Stmt} {N ps : List Str} {k : Nat} {sp : Sp} (F : At K mg x st) (S : FnScope N ps (defScope st))
    (hb : ∀ (kV doc pm : Value) (an : Option Addr) (cdv ct : Value) (us : List Value), us.length = ps.length → bindArgs (PySem.W.fnOf x x (defArgs st) (defBody st) (defScope st) .none kV doc pm an cdv ct) ⟨us, []⟩ = pure (ps.zip us))
    (len : ∀ vs H Q E, sp vs H Q E → vs.length = ps.length)
    (hbody : ∀ (f : Addr) (cdv : Value) (A : Around) (outer : List Env) (s : Shared) (H : Hp) (vs : List V) (Q : VK) (E : XK), Room k (A.deeper (envOfC x (defScope st) s.heap.objs.size f cdv)) → sp vs H Q E →
      ∃ t, PSs (cxOf (L2.CX P w) P w K mg base N x (defScope st) f cdv A outer s H E) (defBody st) t ∧ t { nx := fun _ H' => Q .non H', rt := Q } (start N vs) H) : Cal P w K mg base (k + 1) x sp := by
  obtain ⟨f, fd, F, hm⟩ := F.ex
  exact ⟨f, fd, ps, F.ok S len (hbody f), hm, F.kp, F.bindsN hb⟩
theorem Cal.mono {j k : Nat} {x : Str} {sp : Sp} (c : Cal P w K mg base j x sp) (h : j ≤ k) : Cal P w K mg base k x sp := by
  obtain ⟨f, fd, ps, F, a, b, d⟩ := c.ex
  exact ⟨f, fd, ps, F.mono h, a, b, d⟩
theorem Cal.imp {k : Nat} {x : Str} {sp sp' : Sp} (c : Cal P w K mg base k x sp) (h : ∀ vs H Q E, sp' vs H Q E → sp vs H Q E) : Cal P w K mg base k x sp' := by
  obtain ⟨f, fd, ps, F, a, b, d⟩ := c.ex
  exact ⟨f, fd, ps, F.imp h, a, b, d⟩
end
section
variable {X : Cx} {k j : Nat} {x : Str} {sp : Sp} {E : XK} {p pos : Pos} {e : Expr} {es : List Expr} {t : TA}
theorem pe_cal (F : Cal X.prog X.w X.K X.mg X.base k x sp) (hr : Room j X.A) (hk : k ≤ j) (hg : Gl X x) (hx : Passes (L2.CX X.prog X.w) X E) (ha : PA X (e :: es) t) (hdb : (x == ("__debug__" : Str)) = false := by decide)
    (he : starEach (e :: es) X.env = (false, eval e X.env) :: starEach es X.env := by rfl) (hpl : (backTo pos (starEach es X.env)).any (·.1) = false := by rfl) :
    PE X (.Call (.Name x p) (e :: es) [] pos) (tCall sp [] E t) := by
  obtain ⟨f, fd, ps, G, hm, kp, b⟩ := F.ex
  exact pe_call G (hr.mono hk) hg hm kp b .nil hx ha hdb he hpl
theorem pe_cal0 (F : Cal X.prog X.w X.K X.mg X.base k x sp) (hr : Room j X.A) (hk : k ≤ j) (hg : Gl X x) (hx : Passes (L2.CX X.prog X.w) X E) (hdb : (x == ("__debug__" : Str)) = false := by decide) :
    PE X (.Call (.Name x p) [] [] pos) (tCall sp [] E tNil) := by
  obtain ⟨f, fd, ps, G, hm, kp, b⟩ := F.ex
  exact pe_call0 G (hr.mono hk) hg hm kp b .nil hx hdb
/-- what a callee raises goes on out of the def -/
theorem passE {P : Program} {w : World} {K : PySem.W.Frag} {mg : Str → Option Value} {base : Heap} {N : List Str} {qual : Str} {sc : Scope} {f : Addr} {cd : Value} {A : Around} {outer : List Env} {s : Shared} {H : Hp} {E : XK} :
    Passes (L2.CX P w) (cxOf (L2.CX P w) P w K mg base N qual sc f cd A outer s H E) E :=
  passes_call (W := fun cls d _ H => E cls d H) (takes_of rfl rfl rfl rfl) fun _ _ _ _ h => h
end
/-! ### facts of the written part by any test of one's own -/
abbrev FT := PySem.W.Frag → Bool
def obsX (fx : List FT) (fn : List He.DefD) (K : PySem.W.Frag) : He.AlD := ((fx.all fun f => f K) && fn.all fun d => d.ok K, fn.map fun d => He.fnW K d.at_)
def SaysX (fx : List FT) (fn : List He.DefD) (K : PySem.W.Frag) : Prop := obsX fx fn K = He.valD fn
def obsXG (n : Nat) (fx : List FT) (fn : List He.DefD) (g : Addr → Option Obj) : He.AlD := obsX fx fn (He.frG g (He.asD g n))
def hookX (n : Nat) (fx : List FT) (fn : List He.DefD) : PySem.W.Hook where
  α := He.AlD
  obs := fun s => obsXG n fx fn s.heap.get?
  val := fun _ => He.valD fn
  says := fun _ h => ∃ K : PySem.W.Frag, K.In h ∧ SaysX fx fn K
  of := fun _ _ e => ⟨_, He.frG_in, e⟩
  keeps := fun _ _ _ ⟨K, hK, c⟩ k => ⟨K, PySem.W.Frag.In.keeps hK k, c⟩
theorem obsXG_eq {n : Nat} {fx : List FT} {fn : List He.DefD} {g : Addr → Option Obj} {s : Shared} (h : ∀ a, g a = s.heap.get? a) : obsXG n fx fn g = (hookX n fx fn).obs s := by
  have e : g = s.heap.get? := funext h
  rw [e] <;> rfl
section
variable {fx : List FT} {fn : List He.DefD} {K : PySem.W.Frag}
theorem SaysX.fact (c : SaysX fx fn K) (i : Nat) {f : FT} (h : fx[i]? = some f := by rfl) : f K = true := by
  have c1 := (He.ba (show ((fx.all fun f => f K) && fn.all fun d => d.ok K) = true from congrArg (fun z : He.AlD => z.1) c)).1
  exact List.all_eq_true.mp c1 f (List.mem_of_getElem? h)
theorem SaysX.def_ (c : SaysX fx fn K) (i : Nat) {d : He.DefD} (h : fn[i]? = some d := by rfl) : ∃ fd, FunD K d.name d.qual d.params d.body d.scope (d.dvs K) (d.kws K) (He.fAd K d.at_) fd := by
  have c2 := (He.ba (show ((fx.all fun f => f K) && fn.all fun d => d.ok K) = true from congrArg (fun z : He.AlD => z.1) c)).2
  have e : fn.map (fun d => He.fnW K d.at_) = fn.map He.DefD.val := congrArg (fun z : He.AlD => z.2) c
  have e2 : (fn.map fun d => He.fnW K d.at_)[i]? = (fn.map He.DefD.val)[i]? := by rw [e]
  rw [List.getElem?_map, List.getElem?_map, h] at e2
  exact He.DefD.funD (Option.some.inj e2) (List.all_eq_true.mp c2 d (List.mem_of_getElem? h))
end
end Ns
namespace Ns
open PySem PySem.Spec PyProof.Rows L2
/-! ### built-in names that the text leaves free -/
structure Bi (mg : Str → Option Value) : Prop where
  abs : mg "abs" = none
  int_ : mg "int" = none
  len : mg "len" = none
  range : mg "range" = none
  tuple : mg "tuple" = none
  list : mg "list" = none
  dict_ : mg "dict" = none
  set_ : mg "set" = none
  str_ : mg "str" = none
  bool : mg "bool" = none
  sorted : mg "sorted" = none
  min : mg "min" = none
  max : mg "max" = none
  sum : mg "sum" = none
  any : mg "any" = none
  all : mg "all" = none
  isinstance : mg "isinstance" = none
  enumerate : mg "enumerate" = none
  zip : mg "zip" = none
  reversed : mg "reversed" = none
def biNames : List Str := ["abs", "int", "len", "range", "tuple", "list", "dict", "set", "str", "bool", "sorted", "min", "max", "sum", "any", "all", "isinstance", "enumerate", "zip", "reversed"]
def freeT (x : Str) : FT := fun K => (He.Fa.free x).ok K
def biT : FT := fun K => biNames.all fun x => freeT x K
theorem bi_of {K : PySem.W.Frag} {h : Heap} {mg : Str → Option Value} (X : K.In h) (G : h.Ns mainGlobals mg) (c : biT K = true) : Bi mg := by
  have f : ∀ x ∈ biNames, mg x = none := fun x hx => He.free_ok X G (List.all_eq_true.mp c x hx)
  exact ⟨f _ (by simp [biNames]), f _ (by simp [biNames]), f _ (by simp [biNames]), f _ (by simp [biNames]), f _ (by simp [biNames]), f _ (by simp [biNames]), f _ (by simp [biNames]), f _ (by simp [biNames]), f _ (by simp [biNames]), f _ (by simp [biNames]),
    f _ (by simp [biNames]), f _ (by simp [biNames]), f _ (by simp [biNames]), f _ (by simp [biNames]), f _ (by simp [biNames]), f _ (by simp [biNames]), f _ (by simp [biNames]), f _ (by simp [biNames]), f _ (by simp [biNames]), f _ (by simp [biNames])⟩
/-- a loop's own errors leave the def -/
theorem passOwn {CX : CXT} {P : Program} {w : World} {K : PySem.W.Frag} {mg : Str → Option Value} {base : Heap} {N : List Str} {qual : Str} {sc : Scope} {f : Addr} {cd : Value} {A : Around} {outer : List Env} {s : Shared} {H : Hp} {E : XK} :
    PassesOwn (model (cxOf CX P w K mg base N qual sc f cd A outer s H E).prog (cxOf CX P w K mg base N qual sc f cd A outer s H E).w) (cxOf CX P w K mg base N qual sc f cd A outer s H E).A (cxOf CX P w K mg base N qual sc f cd A outer s H E).env (cxOf CX P w K mg base N qual sc f cd A outer s H E).xe := PassesOwn.leaving
theorem hu65 {A : Around} {k : Nat} (hr : Room k A) : A.units + 65 < cLine := by have := hr.un; omega
end Ns
namespace Ns
open PySem PySem.Spec PyProof.Rows L2
/-! ### ways of a test -/
theorem ifD {p : Prop} [Decidable p] {A B : Prop} (h1 : p → A) (h2 : ¬ p → B) : if decide p = true then A else B := by
  by_cases h : p
  · rw [if_pos (decide_eq_true h)]
    exact h1 h
  · rw [if_neg (by simpa using h)]
    exact h2 h
theorem ifI {i j : Int} {A B : Prop} (h1 : i = j → A) (h2 : i ≠ j → B) : if decide (V.int i = V.int j) = true then A else B :=
  ifD (fun h => h1 (V.int.inj h)) fun h => h2 fun e => h (congrArg V.int e)
theorem ifNI {i j : Int} {A B : Prop} (h1 : i ≠ j → A) (h2 : i = j → B) : if (!decide (V.int i = V.int j)) = true then A else B := by
  by_cases h : i = j
  · rw [decide_eq_true (congrArg V.int h)]
    exact iteF (h2 h)
  · rw [decide_eq_false fun e => h (V.int.inj e)]
    exact iteT (h1 h)
theorem ifB {b : Bool} {A B : Prop} (h1 : b = true → A) (h2 : b = false → B) : if b = true then A else B := by
  cases b
  · exact iteF (h2 rfl)
  · exact iteT (h1 rfl)
theorem ifN {b : Bool} {A B : Prop} (h1 : b = false → A) (h2 : b = true → B) : if (!b) = true then A else B := by
  cases b
  · exact iteT (h1 rfl)
  · exact iteF (h2 rfl)
theorem ifY {p : Prop} [Decidable p] {A B : Prop} (h : p) (h1 : A) : if decide p = true then A else B := by
  rw [if_pos (decide_eq_true h)]
  exact h1
theorem ifX {p : Prop} [Decidable p] {A B : Prop} (h : ¬ p) (h1 : B) : if decide p = true then A else B := by
  rw [if_neg (by simpa using h)]
  exact h1
end Ns
namespace Ns
open PySem PySem.Spec PyProof.Rows L2
/-! ### the rules whose reading names the written part, with that named K -/
section
variable {X : Cx} {K : PySem.W.Frag} {a b e : Expr} {es : List Expr} {ta tb te : TE} {rest : List Expr} {pos : Pos}
theorem pg_tupK {k : Nat} {t : TGs} {n : Nat} (hK : X.K = K) (hc : X.calm = true) (h : PGs X es t)
    (hn : (assignEach es X.env).length = n := by rfl) (hst : (assignEach es X.env).findIdx? (·.1) = none := by rfl) : PG X (.Tuple es k pos) (gTup K n t) := by
  subst hK
  exact pg_tup hc h hn hst
theorem ix_listK (hK : X.K = K) : IxR X (rIxL K) := by subst hK; exact ix_list
theorem ix_tupK (hK : X.K = K) : IxR X (rIxT K) := by subst hK; exact ix_tup
theorem ix_seqK (hK : X.K = K) : IxR X (rIx K) := by subst hK; exact ix_seq
theorem sl_listK (hK : X.K = K) : SlR X (rSlL K) := by subst hK; exact sl_list
theorem sl_tupAK (hK : X.K = K) : SlR X (rSlA K) := by subst hK; exact sl_tupA
theorem op_in_seqK (hK : X.K = K) : OpR X (compareOp .In) (rIn K false) := by subst hK; exact op_in_seq
theorem op_notIn_seqK (hK : X.K = K) : OpR X (compareOp .NotIn) (rIn K true) := by subst hK; exact op_notIn_seq
theorem op_inDK (hK : X.K = K) (hu : X.A.units + 65 < cLine) : OpR X (compareOp .In) (rInD K) := by subst hK; exact op_inD hu
theorem op_notInDK (hK : X.K = K) (hu : X.A.units + 65 < cLine) : OpR X (compareOp .NotIn) (rNotInD K) := by subst hK; exact op_notInD hu
theorem op_eqDK (hK : X.K = K) (hu : X.A.units + 64 < cLine) : OpR X (compareOp .Eq) (rEqD K) := by subst hK; exact op_eqD hu
theorem op_neDK (hK : X.K = K) (hu : X.A.units + 64 < cLine) : OpR X (compareOp .NotEq) (rNeD K) := by subst hK; exact op_neD hu
theorem op_ltTK (hK : X.K = K) (hu : X.A.units < cLine) : OpR X (compareOp .Lt) (rLtT K) := by subst hK; exact op_ltT hu
theorem op_leTK (hK : X.K = K) (hu : X.A.units < cLine) : OpR X (compareOp .LtE) (rLeT K) := by subst hK; exact op_leT hu
theorem op_catAK (hK : X.K = K) : OpR X (binaryOp .Add) (rCatA K) := by subst hK; exact op_catA
def rLenK (K : PySem.W.Frag) : List V → Hp → VK → Prop := fun xs H Q => ∃ x n, xs = [x] ∧ LenV K x H n ∧ Q (.int n) H
theorem call_lenK (hK : X.K = K) : CallR X (.builtin "len") (rLenK K) := by subst hK; exact call_len
def rListOfK (K : PySem.W.Frag) : List V → Hp → VK → Prop := fun xs H Q => ∃ p ys, xs = [.ref p] ∧ (SqL K H p ys ∨ SqT K H p ys) ∧ ∀ l, H l = none → Q (.ref l) (upd H l (.lst ys))
theorem call_list_ofK (hK : X.K = K) : CallR X (.type "list") (rListOfK K) := by subst hK; exact call_list_of
def rTupOfK (K : PySem.W.Frag) : List V → Hp → VK → Prop := fun xs H Q => ∃ p ys, xs = [.ref p] ∧ ((SqL K H p ys ∧ ∀ l, H l = none → Q (.ref l) (upd H l (.tup ys))) ∨ (SqT K H p ys ∧ Q (.ref p) H))
theorem call_tuple_ofK (hK : X.K = K) : CallR X (.type "tuple") (rTupOfK K) := by subst hK; exact call_tuple_of
theorem call_isiK' (hK : X.K = K) : CallR X (.builtin "isinstance") (rIsi K) := by subst hK; exact call_isi
def tTru (K : PySem.W.Frag) (ta : TE) : TT := fun σ H Q => ta σ H fun x H' => ∃ k, TruV K x H' k ∧ Q k H'
theorem pt_truthK (hK : X.K = K) (ha : PE X a ta) (he : ∀ whole, isTrue a X.env whole = (do let v ← whole; standAt a.pos; holding [v] (truthy v))) : PT X a (tTru K ta) := by subst hK; exact pt_truth ha he
theorem pe_notTK (hK : X.K = K) (ha : PE X a ta) : PE X (.UnaryOp .Not a pos) (tNotT K ta) := by subst hK; exact pe_notT ha
theorem pe_orTK (hK : X.K = K) (ha : PE X a ta) (hb : PE X (.BoolOp .Or (b :: rest) pos) tb) : PE X (.BoolOp .Or (a :: b :: rest) pos) (tOrT K ta tb) := by subst hK; exact pe_orT ha hb
theorem pe_andTK (hK : X.K = K) (ha : PE X a ta) (hb : PE X (.BoolOp .And (b :: rest) pos) tb) : PE X (.BoolOp .And (a :: b :: rest) pos) (tAndT K ta tb) := by subst hK; exact pe_andT ha hb
theorem pi_listK {tg : Expr} (hK : X.K = K) (hl : PE X e te) : PI X tg e (iList K te) := by subst hK; exact pi_list hl
theorem pi_tupK {tg : Expr} (hK : X.K = K) (hl : PE X e te) : PI X tg e (iTup K te) := by subst hK; exact pi_tup hl
theorem pi_enumK {t : TA} {p tpos : Pos} {elts : List Expr} {kk : Nat} (hK : X.K = K) (hg : Gl X "enumerate") (hm : X.mg "enumerate" = none) (ha : PA X [e] t) (hs : starEach [e] X.env = [(false, eval e X.env)] := by rfl) :
    PI X (.Tuple elts kk tpos) (.Call (.Name "enumerate" p) [e] [] pos) (iEnum K t) := by subst hK; exact pi_enum hg hm ha hs
theorem mt_joinK (hK : X.K = K) : MtR X "str.join" (fun x xs H Q => ∃ a p, ∃ ys : List Str, x = .str a ∧ xs = [.ref p] ∧ (SqL K H p (ys.map V.str) ∨ SqT K H p (ys.map V.str)) ∧
      (ys.map (·.length)).sum + ys.length * a.length ≤ 16777216 ∧ Q (.str (Txt.join a ys)) H) := by subst hK; exact mt_join
theorem pe_joinK {o : Expr} {to : TE} {apos : Pos} (hK : X.K = K) (ho : PE X o to) (he : PE X e te) (hs : starEach [e] X.env = [(false, eval e X.env)] := by rfl) (hbase : attributeBase o "join" X.env (eval o X.env) = eval o X.env := by rfl) (hline : (apos.endLine == pos.line) = true := by rfl) :
    PE X (.Call (.Attribute o "join" apos) [e] [] pos) (tM1 (fun x xs H Q => ∃ a p, ∃ ys : List Str, x = .str a ∧ xs = [.ref p] ∧ (SqL K H p (ys.map V.str) ∨ SqT K H p (ys.map V.str)) ∧
      (ys.map (·.length)).sum + ys.length * a.length ≤ 16777216 ∧ Q (.str (Txt.join a ys)) H) to te) := by subst hK; exact pe_join ho he hs hbase hline
theorem mt_indexK (hK : X.K = K) : MtR X "list.index" (rIndex K) := by subst hK; exact mt_index
end
end Ns
namespace Ns
open PySem PySem.Spec PyProof.Rows L2
/-! ### own errors, made without arguments -/
structure ExcC (K : PySem.W.Frag) (mg : Str → Option Value) (x : Str) (C : Addr) : Prop where
  g : mg x = some (.ref C)
  ex : PySem.W.excIn K C He.veBase "ValueError.__new__" = true
  kp : PySem.W.keepIn K (.ref C) = true
  sub : PySem.W.subIn K (.ref C) (.type "BaseException") = some true
  ty : PySem.W.typeIn K (.ref C) = some (.type "type")
def excT (x : Str) : FT := fun K => (He.Fa.glo x).ok K && (He.Fa.exc x).ok K
theorem excC_of {K : PySem.W.Frag} {h : Heap} {mg : Str → Option Value} (X : K.In h) (G : h.Ns mainGlobals mg) {x : Str} (c : excT x K = true) : ExcC K mg x (He.ga K x) := by
  obtain ⟨c1, c2⟩ := He.ba c
  obtain ⟨e1, e2, e3, e4⟩ := He.exc_ok c2
  exact ⟨He.glo_ok X G c1, e1, e2, e3, e4⟩
section
variable {X : Cx} {C : Addr} {bmB : List Value} {B newId initId : String}
theorem pmk_own0 {x : Str} {p pos : Pos} (F : ExcBaseFacts B newId initId bmB) (q : PySem.W.excIn X.K C bmB newId = true) (gC : X.mg x = some (.ref C)) (kC : PySem.W.keepIn X.K (.ref C) = true) (r : Raises X (.ref C)) (hg : Gl X x)
    (hdb : (x == ("__debug__" : Str)) = false := by decide) : PMk X (.Call (.Name x p) [] [] pos) (fun _ H Q => Q (.ref C) none H) := by
  intro pins s σ H Q I h
  refine wpAny_Call_Name_kw (ld_glob I hg gC ?_ hdb)
  refine PySem.W.callWith_K0 I.kIn kC ?_
  show wpAny _ _ (call (.ref C) []) _ _ _
  obtain ⟨bm, N, nm, qn, bs, hdct, sn, sub, ab, col, dd, k0, k1, k2, k3, k5, mN, hC, hN, hni, T⟩ := exc_obj I.kIn q
  refine wpAny_call_exc_subT F T hC hN hni (fun h' e hm => ?_) (by show 0 ≤ sizeLine; omega)
  exact mk_of I hm r h (I.hok.gone hm.new)
end
end Ns

/-! Own layer D: data in the heap, comprehensions that make data of data. -/
namespace Ns
open PySem PySem.Spec PyProof.Rows L2
/-! ### what stays -/
/-- tuples stay -/
def KeepT (H H' : Hp) : Prop := ∀ a xs, H a = some (.tup xs) → H' a = some (.tup xs)
theorem KeepT.refl (H : Hp) : KeepT H H := fun _ _ h => h
theorem KeepT.trans {H H1 H2 : Hp} (x : KeepT H H1) (y : KeepT H1 H2) : KeepT H H2 := fun a xs h => y a xs (x a xs h)
theorem sKt {H H' : Hp} (x : Same H H') : KeepT H H' := fun a xs h => x a _ h
theorem KeepT.lst {H : Hp} {p : Addr} {xs : List V} {o : HO} (h : H p = some (.lst xs)) : KeepT H (upd H p o) := fun a ys e => by
  rw [upd_ne (ne_of e h (by intro z; cases z))]
  exact e
theorem KeepT.dT {H : Hp} {p : Addr} {xs : List (List Key × V)} {o : HO} (h : H p = some (.dT xs)) : KeepT H (upd H p o) := fun a ys e => by
  rw [upd_ne (ne_of e h (by intro z; cases z))]
  exact e
theorem KeepT.dK {H : Hp} {p : Addr} {xs : List (Key × V)} {o : HO} (h : H p = some (.dK xs)) : KeepT H (upd H p o) := fun a ys e => by
  rw [upd_ne (ne_of e h (by intro z; cases z))]
  exact e
theorem KeepT.new {H : Hp} {p : Addr} {o : HO} (h : H p = none) : KeepT H (upd H p o) := fun a ys e => by
  rw [upd_ne (ne_of_none e h)]
  exact e
/-- all stands but what stands at D -/
def SameX (D : Addr) (H H' : Hp) : Prop := ∀ a o, H a = some o → a ≠ D → H' a = some o
theorem SameX.refl (D : Addr) (H : Hp) : SameX D H H := fun _ _ h _ => h
theorem SameX.trans {D : Addr} {H H1 H2 : Hp} (x : SameX D H H1) (y : SameX D H1 H2) : SameX D H H2 := fun a o h n => y a o (x a o h n) n
theorem sX {D : Addr} {H H' : Hp} (x : Same H H') : SameX D H H' := fun a o h _ => x a o h
theorem SameX.put {D : Addr} {o : HO} {H : Hp} : SameX D H (upd H D o) := fun a u h n => by
  rw [upd_ne n]
  exact h
theorem SameX.same {D : Addr} {H H1 H2 : Hp} (n : H D = none) (x : Same H H1) (y : SameX D H1 H2) : Same H H2 := fun a o h => y a o (x a o h) (ne_of_none h n)
/-- a store into an object new since H -/
theorem sPut {p : Addr} {o : HO} {H H1 : Hp} (x : Same H H1) (n : H p = none) : Same H (upd H1 p o) := fun a u h => by
  rw [upd_ne (ne_of_none h n)]
  exact x a u h
theorem sNew {p : Addr} {o : HO} {H H1 : Hp} (x : Same H H1) (n : H1 p = none) : Same H (upd H1 p o) := fun a u h => by
  rw [upd_ne (ne_of_none (x a u h) n)]
  exact x a u h
theorem same_laid {H : Hp} {p : Addr} {o : HO} (h : H p = none) : Same H (upd H p o) := sNew (Same.refl H) h
/-! ### data -/
/-- a representation that stays while tuples stay -/
def PersT {α : Type} (R : Hp → V → α → Prop) : Prop := ∀ H H' v a, KeepT H H' → R H v a → R H' v a
theorem pMono {α : Type} {R : Hp → V → α → Prop} (p : PersT R) {H H' : Hp} (k : KeepT H H') : ∀ {vs : List V} {xs : List α}, Paired (R H) vs xs → Paired (R H') vs xs
  | _, _, .nil => .nil
  | _, _, .cons h t => .cons (p _ _ _ _ k h) (pMono p k t)
theorem pApp {α β : Type} {F : α → β → Prop} : ∀ {as as' : List α} {bs bs' : List β}, Paired F as bs → Paired F as' bs' → Paired F (as ++ as') (bs ++ bs')
  | _, _, _, _, .nil, h => h
  | _, _, _, _, .cons h t, h' => .cons h (pApp t h')
theorem pAt {α β : Type} {F : α → β → Prop} : ∀ {as : List α} {bs : List β} {i : Nat} {b : β}, Paired F as bs → bs[i]? = some b → ∃ a, as[i]? = some a ∧ F a b
  | _, _, _, _, .nil, h => by simp at h
  | _, _, 0, _, .cons h t, e => by simp at e; exact ⟨_, rfl, e ▸ h⟩
  | _, _, i + 1, _, .cons h t, e => by
    obtain ⟨a, h1, h2⟩ := pAt (i := i) t (by simpa using e)
    exact ⟨a, by simpa using h1, h2⟩
theorem pAtL {α β : Type} {F : α → β → Prop} : ∀ {as : List α} {bs : List β} {i : Nat} {a : α}, Paired F as bs → as[i]? = some a → ∃ b, bs[i]? = some b ∧ F a b
  | _, _, _, _, .nil, h => by simp at h
  | _, _, 0, _, .cons h t, e => by simp at e; exact ⟨_, rfl, e ▸ h⟩
  | _, _, i + 1, _, .cons h t, e => by
    obtain ⟨a, h1, h2⟩ := pAtL (i := i) t (by simpa using e)
    exact ⟨a, by simpa using h1, h2⟩
theorem pMem {α β : Type} {F : α → β → Prop} {as : List α} {bs : List β} (p : Paired F as bs) {b : β} (h : b ∈ bs) : ∃ a, a ∈ as ∧ F a b := by
  obtain ⟨i, hi⟩ := List.mem_iff_getElem?.mp h
  obtain ⟨a, h1, h2⟩ := pAt p hi
  exact ⟨a, List.mem_of_getElem? h1, h2⟩
theorem pMemL {α β : Type} {F : α → β → Prop} {as : List α} {bs : List β} (p : Paired F as bs) {a : α} (h : a ∈ as) : ∃ b, b ∈ bs ∧ F a b := by
  obtain ⟨i, hi⟩ := List.mem_iff_getElem?.mp h
  obtain ⟨a, h1, h2⟩ := pAtL p hi
  exact ⟨a, List.mem_of_getElem? h1, h2⟩
theorem pMapL {α β γ : Type} {F : α → β → Prop} (f : γ → α) (g : γ → β) : ∀ (l : List γ), (∀ c ∈ l, F (f c) (g c)) → Paired F (l.map f) (l.map g)
  | [], _ => .nil
  | c :: l, h => .cons (h c (List.mem_cons_self ..)) (pMapL f g l fun d hd => h d (List.mem_cons_of_mem _ hd))
/-- a point -/
def pI (x : Nat) : V := .int (x : Int)
def Pt (_ : Hp) (v : V) (x : Nat) : Prop := v = pI x
theorem persPt : PersT Pt := fun _ _ _ _ _ h => h
/-- an int -/
def Nm (_ : Hp) (v : V) (z : Int) : Prop := v = .int z
theorem persNm : PersT Nm := fun _ _ _ _ _ h => h
theorem pairedNm (H : Hp) : ∀ ns : List Int, Paired (Nm H) (ns.map V.int) ns
  | [] => .nil
  | _ :: ns => .cons rfl (pairedNm H ns)
theorem pairedNm_eq {H : Hp} : ∀ {vs : List V} {ns : List Int}, Paired (Nm H) vs ns → vs = ns.map V.int
  | _, _, .nil => rfl
  | _, _, .cons h t => by rw [show _ = V.int _ from h, pairedNm_eq t]; rfl
/-- a pair of points -/
def Pr (H : Hp) (v : V) (x : Nat × Nat) : Prop := ∃ t, v = .ref t ∧ H t = some (.tup [pI x.1, pI x.2])
theorem persPr : PersT Pr := fun _ _ _ _ k ⟨t, e, h⟩ => ⟨t, e, k _ _ h⟩
theorem prMk {H : Hp} {t : Addr} {a b : Int} {x : Nat × Nat} (h : H t = some (.tup [.int a, .int b])) (ha : a = x.1) (hb : b = x.2) : Pr H (.ref t) x := by
  subst ha hb
  exact ⟨t, rfl, h⟩
/-- a tuple of things -/
def Tup {α : Type} (R : Hp → V → α → Prop) (H : Hp) (v : V) (xs : List α) : Prop := ∃ t vs, v = .ref t ∧ H t = some (.tup vs) ∧ Paired (R H) vs xs
theorem persTup {α : Type} {R : Hp → V → α → Prop} (p : PersT R) : PersT (Tup R) := fun _ _ _ _ k ⟨t, vs, e, h, q⟩ => ⟨t, vs, e, k _ _ h, pMono p k q⟩
/-- a list of things -/
def Lst {α : Type} (R : Hp → V → α → Prop) (H : Hp) (v : V) (xs : List α) : Prop := ∃ t vs, v = .ref t ∧ H t = some (.lst vs) ∧ Paired (R H) vs xs
theorem Lst.same {α : Type} {R : Hp → V → α → Prop} (p : PersT R) {H H' : Hp} {v : V} {xs : List α} (k : Same H H') : Lst R H v xs → Lst R H' v xs := fun ⟨t, vs, e, h, q⟩ => ⟨t, vs, e, k _ _ h, pMono p (sKt k) q⟩
/-- a net -/
def Net (H : Hp) (v : V) (n : Nat) (ties : List (Nat × Nat)) : Prop := ∃ t u, v = .ref t ∧ H t = some (.tup [pI n, u]) ∧ Tup Pr H u ties
theorem Net.keep {H H' : Hp} {v : V} {n : Nat} {ties : List (Nat × Nat)} (x : Net H v n ties) (k : KeepT H H') : Net H' v n ties := by
  obtain ⟨t, u, e, h, q⟩ := x
  exact ⟨t, u, e, k _ _ h, persTup persPr _ _ _ _ k q⟩
/-! ### comprehensions: the element's reading is shown for any end -/
section
variable {α β : Type} {g : TG} {tt : TT} {te : TE} {vs : List Nat} {σ : L2.St} {H1 : Hp} {D : Addr} {Qd : Hp → Prop}
theorem filterMap_take_succ {f : α → Option β} {l : List α} {i : Nat} {x : α} (h : l[i]? = some x) : (l.take (i + 1)).filterMap f = (l.take i).filterMap f ++ (f x).toList := by
  have e : l.take (i + 1) = l.take i ++ [x] := by rw [List.take_add_one, h] <;> rfl
  rw [e, List.filterMap_append]
  cases hx : f x <;> simp [hx]
/-- over a range: f says what is made of the i-th number, if anything -/
theorem comp_range {lo : Int} {n : Nat} (hn : n < sizeLine) (f : Nat → Option β) {R : Hp → V → β → Prop} (hR : PersT R) (hD : H1 D = none)
    (hs : ∀ (i : Nat) (H : Hp) (Yes : V → Hp → Prop) (No : Hp → Prop), i < n → Same H1 H → (∀ a, f i = some a → ∀ y H4, Same H H4 → R H4 y a → Yes y H4) → (f i = none → ∀ H4, Same H H4 → No H4) →
      g (.int (lo + i)) (wipe σ vs) H fun σ2 H2 => wipe σ2 vs = wipe σ vs ∧ tt σ2 H2 fun b H3 => if b = true then te σ2 H3 Yes else No H3)
    (hd : ∀ H ys, Same H1 H → H D = some (.lst ys) → Paired (R H) ys ((List.range n).filterMap f) → Qd H) :
    ∃ W : Nat → Nat → Hp → Prop, (∃ m, W 0 m (upd H1 D (.lst []))) ∧ ∀ i m H, W i m H →
      ((Itr lo n).stop i H ∧ Qd H) ∨ ((Itr lo n).go i H ∧ ∃ Nx : Hp → Prop, (∀ H', Nx H' → ∃ m', m' < m ∧ W (i + 1) m' H') ∧ ∀ x H', (Itr lo n).yld i H x H' → g x (wipe σ vs) H' fun σ2 H2 => wipe σ2 vs = wipe σ vs ∧ tt σ2 H2 fun b H3 =>
        if b = true then te σ2 H3 fun y H4 => ∃ acc, H4 D = some (.lst acc) ∧ acc.length < sizeLine ∧ Nx (upd H4 D (.lst (acc ++ [y]))) else Nx H3) := by
  have hlen : ∀ i, ((List.range n).take i).length ≤ n := fun i => by rw [List.length_take, List.length_range]; omega
  refine lc_range (lo := lo) (n := n) (fun i H => Same H1 H ∧ ∃ ys, H D = some (.lst ys) ∧ Paired (R H) ys (((List.range n).take i).filterMap f)) ⟨same_laid hD, [], upd_same, by simpa using Paired.nil⟩ ?_ ?_
  · rintro i H hi ⟨sm, ys, hy, pr⟩
    have hat : (List.range n)[i]? = some i := by simp [hi]
    have hl : ys.length < sizeLine := by
      have := pr.length
      have h2 := List.length_filterMap_le f ((List.range n).take i)
      have h3 := hlen i
      omega
    refine hs i H _ _ hi sm (fun a ha y H4 s4 r4 => ?_) (fun ha H4 s4 => ?_)
    · refine ⟨ys, s4 _ _ hy, hl, sPut (sm.trans s4) hD, ys ++ [y], upd_same, ?_⟩
      rw [filterMap_take_succ hat, ha]
      have k : KeepT H4 (upd H4 D (.lst (ys ++ [y]))) := KeepT.lst (s4 _ _ hy)
      exact pApp (pMono hR (KeepT.trans (sKt s4) k) pr) (.cons (hR _ _ _ _ k r4) .nil)
    · refine ⟨sm.trans s4, ys, s4 _ _ hy, ?_⟩
      rw [filterMap_take_succ hat, ha]
      simpa using pMono hR (sKt s4) pr
  · rintro H ⟨sm, ys, hy, pr⟩
    rw [List.take_of_length_le (by simp)] at pr
    exact hd H ys sm hy pr
/-- over a list of data -/
theorem comp_list {K : PySem.W.Frag} {a : Addr} {us : List V} {ds : List α} {Rs : Hp → V → α → Prop} (hRs : PersT Rs) (f : α → Option β) {R : Hp → V → β → Prop} (hR : PersT R) (hD : H1 D = none)
    (hl : SqL K H1 a us) (hn : us.length < sizeLine) (hp : Paired (Rs H1) us ds)
    (hs : ∀ (d : α) (x : V) (H : Hp) (Yes : V → Hp → Prop) (No : Hp → Prop), d ∈ ds → Rs H x d → Same H1 H → (∀ a, f d = some a → ∀ y H4, Same H H4 → R H4 y a → Yes y H4) → (f d = none → ∀ H4, Same H H4 → No H4) →
      g x (wipe σ vs) H fun σ2 H2 => wipe σ2 vs = wipe σ vs ∧ tt σ2 H2 fun b H3 => if b = true then te σ2 H3 Yes else No H3)
    (hd : ∀ H ys, Same H1 H → H D = some (.lst ys) → Paired (R H) ys (ds.filterMap f) → Qd H) :
    ∃ W : Nat → Nat → Hp → Prop, (∃ m, W 0 m (upd H1 D (.lst []))) ∧ ∀ i m H, W i m H →
      ((Itl K a).stop i H ∧ Qd H) ∨ ((Itl K a).go i H ∧ ∃ Nx : Hp → Prop, (∀ H', Nx H' → ∃ m', m' < m ∧ W (i + 1) m' H') ∧ ∀ x H', (Itl K a).yld i H x H' → g x (wipe σ vs) H' fun σ2 H2 => wipe σ2 vs = wipe σ vs ∧ tt σ2 H2 fun b H3 =>
        if b = true then te σ2 H3 fun y H4 => ∃ acc, H4 D = some (.lst acc) ∧ acc.length < sizeLine ∧ Nx (upd H4 D (.lst (acc ++ [y]))) else Nx H3) := by
  have hlen := hp.length
  refine lc_list (K := K) (a := a) (xs := us) (fun i H => Same H1 H ∧ ∃ ys, H D = some (.lst ys) ∧ Paired (R H) ys ((ds.take i).filterMap f)) ⟨same_laid hD, [], upd_same, by simpa using Paired.nil⟩ (fun i H _ p => p.1.seq hl) ?_ ?_
  · rintro i x H hi ⟨sm, ys, hy, pr⟩
    obtain ⟨d, hat, hrs⟩ := pAtL hp hi
    have hll : ys.length < sizeLine := by
      have := pr.length
      have h2 := List.length_filterMap_le f (ds.take i)
      have h3 : (ds.take i).length ≤ ds.length := by rw [List.length_take]; omega
      omega
    refine hs d x H _ _ (List.mem_of_getElem? hat) (hRs _ _ _ _ (sKt sm) hrs) sm (fun a ha y H4 s4 r4 => ?_) (fun ha H4 s4 => ?_)
    · refine ⟨ys, s4 _ _ hy, hll, sPut (sm.trans s4) hD, ys ++ [y], upd_same, ?_⟩
      rw [filterMap_take_succ hat, ha]
      have k : KeepT H4 (upd H4 D (.lst (ys ++ [y]))) := KeepT.lst (s4 _ _ hy)
      exact pApp (pMono hR (KeepT.trans (sKt s4) k) pr) (.cons (hR _ _ _ _ k r4) .nil)
    · refine ⟨sm.trans s4, ys, s4 _ _ hy, ?_⟩
      rw [filterMap_take_succ hat, ha]
      simpa using pMono hR (sKt s4) pr
  · rintro H ⟨sm, ys, hy, pr⟩
    rw [hlen, List.take_of_length_le (Nat.le_refl _)] at pr
    exact hd H ys sm hy pr
/-- over a tuple of data -/
theorem comp_tup {K : PySem.W.Frag} {a : Addr} {us : List V} {ds : List α} {Rs : Hp → V → α → Prop} (hRs : PersT Rs) (f : α → Option β) {R : Hp → V → β → Prop} (hR : PersT R) (hD : H1 D = none)
    (hl : H1 a = some (.tup us)) (hn : us.length < sizeLine) (hp : Paired (Rs H1) us ds)
    (hs : ∀ (d : α) (x : V) (H : Hp) (Yes : V → Hp → Prop) (No : Hp → Prop), d ∈ ds → Rs H x d → Same H1 H → (∀ a, f d = some a → ∀ y H4, Same H H4 → R H4 y a → Yes y H4) → (f d = none → ∀ H4, Same H H4 → No H4) →
      g x (wipe σ vs) H fun σ2 H2 => wipe σ2 vs = wipe σ vs ∧ tt σ2 H2 fun b H3 => if b = true then te σ2 H3 Yes else No H3)
    (hd : ∀ H ys, Same H1 H → H D = some (.lst ys) → Paired (R H) ys (ds.filterMap f) → Qd H) :
    ∃ W : Nat → Nat → Hp → Prop, (∃ m, W 0 m (upd H1 D (.lst []))) ∧ ∀ i m H, W i m H →
      ((Itt K a).stop i H ∧ Qd H) ∨ ((Itt K a).go i H ∧ ∃ Nx : Hp → Prop, (∀ H', Nx H' → ∃ m', m' < m ∧ W (i + 1) m' H') ∧ ∀ x H', (Itt K a).yld i H x H' → g x (wipe σ vs) H' fun σ2 H2 => wipe σ2 vs = wipe σ vs ∧ tt σ2 H2 fun b H3 =>
        if b = true then te σ2 H3 fun y H4 => ∃ acc, H4 D = some (.lst acc) ∧ acc.length < sizeLine ∧ Nx (upd H4 D (.lst (acc ++ [y]))) else Nx H3) := by
  have hlen := hp.length
  refine lc_tup (K := K) (a := a) (xs := us) (fun i H => Same H1 H ∧ ∃ ys, H D = some (.lst ys) ∧ Paired (R H) ys ((ds.take i).filterMap f)) ⟨same_laid hD, [], upd_same, by simpa using Paired.nil⟩ (fun i H _ p => SqT.of (p.1 _ _ hl)) ?_ ?_
  · rintro i x H hi ⟨sm, ys, hy, pr⟩
    obtain ⟨d, hat, hrs⟩ := pAtL hp hi
    have hll : ys.length < sizeLine := by
      have := pr.length
      have h2 := List.length_filterMap_le f (ds.take i)
      have h3 : (ds.take i).length ≤ ds.length := by rw [List.length_take]; omega
      omega
    refine hs d x H _ _ (List.mem_of_getElem? hat) (hRs _ _ _ _ (sKt sm) hrs) sm (fun a ha y H4 s4 r4 => ?_) (fun ha H4 s4 => ?_)
    · refine ⟨ys, s4 _ _ hy, hll, sPut (sm.trans s4) hD, ys ++ [y], upd_same, ?_⟩
      rw [filterMap_take_succ hat, ha]
      have k : KeepT H4 (upd H4 D (.lst (ys ++ [y]))) := KeepT.lst (s4 _ _ hy)
      exact pApp (pMono hR (KeepT.trans (sKt s4) k) pr) (.cons (hR _ _ _ _ k r4) .nil)
    · refine ⟨sm.trans s4, ys, s4 _ _ hy, ?_⟩
      rw [filterMap_take_succ hat, ha]
      simpa using pMono hR (sKt s4) pr
  · rintro H ⟨sm, ys, hy, pr⟩
    rw [hlen, List.take_of_length_le (Nat.le_refl _)] at pr
    exact hd H ys sm hy pr
end
/-! ### the pairs of points, in order -/
def rowP (n x : Nat) : List (Nat × Nat) := (List.range (n - (x + 1))).map fun k => (x, x + 1 + k)
def allPairs (n : Nat) : List (Nat × Nat) := (List.range n).flatMap (rowP n)
theorem mem_rowP {n x : Nat} {p : Nat × Nat} : p ∈ rowP n x ↔ p.1 = x ∧ x < p.2 ∧ p.2 < n := by
  unfold rowP
  rw [List.mem_map]
  constructor
  · rintro ⟨k, hk, rfl⟩
    have := List.mem_range.mp hk
    exact ⟨rfl, by show x < x + 1 + k; omega, by show x + 1 + k < n; omega⟩
  · rintro ⟨h1, h2, h3⟩
    refine ⟨p.2 - (x + 1), List.mem_range.mpr (by omega), ?_⟩
    rw [← h1]
    exact Prod.ext rfl (by show p.1 + 1 + (p.2 - (p.1 + 1)) = p.2; omega)
theorem mem_allPairs {n : Nat} {p : Nat × Nat} : p ∈ allPairs n ↔ p.1 < p.2 ∧ p.2 < n := by
  unfold allPairs
  rw [List.mem_flatMap]
  constructor
  · rintro ⟨x, hx, hp⟩
    obtain ⟨h1, h2, h3⟩ := mem_rowP.mp hp
    exact ⟨by omega, h3⟩
  · rintro ⟨h1, h2⟩
    exact ⟨p.1, List.mem_range.mpr (by omega), mem_rowP.mpr ⟨rfl, h1, h2⟩⟩
theorem rowP_len (n x : Nat) : (rowP n x).length ≤ n := by
  unfold rowP
  rw [List.length_map, List.length_range]
  omega
theorem flat_len {α β : Type} (f : α → List β) (n : Nat) (h : ∀ x, (f x).length ≤ n) : ∀ l : List α, (l.flatMap f).length ≤ l.length * n
  | [] => by simp
  | x :: l => by
    rw [List.flatMap_cons, List.length_append, List.length_cons, Nat.add_mul, Nat.one_mul]
    have := flat_len f n h l
    have := h x
    omega
theorem allPairs_len (n : Nat) : (allPairs n).length ≤ n * n := by
  have := flat_len (rowP n) n (rowP_len n) (List.range n)
  rwa [List.length_range] at this
/-- the order of pairs -/
def ltP (p q : Nat × Nat) : Prop := p.1 < q.1 ∨ p.1 = q.1 ∧ p.2 < q.2
instance (p q : Nat × Nat) : Decidable (ltP p q) := by unfold ltP; infer_instance
theorem allPairs_sorted (n : Nat) : (allPairs n).Pairwise ltP := by
  unfold allPairs
  rw [List.pairwise_flatMap]
  constructor
  · intro x _
    unfold rowP
    rw [List.pairwise_map]
    exact List.Pairwise.imp (fun {a b} h => .inr ⟨rfl, by show x + 1 + a < x + 1 + b; omega⟩) List.pairwise_lt_range
  · refine List.Pairwise.imp (fun {a b} h p hp q hq => ?_) List.pairwise_lt_range
    have h1 := mem_rowP.mp hp
    have h2 := mem_rowP.mp hq
    exact .inl (by omega)
/-- what the program takes for a net's points and ties -/
def Good (n : Nat) (ties : List (Nat × Nat)) : Prop := (∀ p ∈ ties, p.1 < p.2 ∧ p.2 < n) ∧ ties.Pairwise ltP
theorem Good.filter {n : Nat} (f : Nat × Nat → Bool) : Good n ((allPairs n).filter f) :=
  ⟨fun p hp => mem_allPairs.mp ((List.mem_filter.mp hp).1), (allPairs_sorted n).filter f⟩
theorem sizeBig {n : Nat} (h : n ≤ 16000000) : n < sizeLine := Nat.lt_of_le_of_lt h (by rw [sizeLine_eq]; decide)
/-! ### dicts whose keys are pairs of points -/
abbrev DT := List (List Key × V)
def key (x : Nat × Nat) : List Key := [.inl (x.1 : Int), .inl (x.2 : Int)]
theorem key_inj {x y : Nat × Nat} (h : key x = key y) : x = y := by
  unfold key at h
  simp only [List.cons.injEq, Sum.inl.injEq] at h
  exact Prod.ext (by have := h.1; omega) (by have := h.2.1; omega)
def hasP (kvs : DT) (x : Nat × Nat) : Bool := (valV kvs (key x)).isSome
theorem dgetP {H : Hp} {d t : Addr} {kvs : DT} {a b : Int} {x : Nat × Nat} (h : H d = some (.dT kvs)) (ht : H t = some (.tup [.int a, .int b])) (ha : a = x.1) (hb : b = x.2) : DGet H d (.ref t) (valV kvs (key x)) := by
  subst ha hb
  exact DGet.t h ht
theorem dputP {H : Hp} {d t : Addr} {kvs : DT} {a b : Int} {x : Nat × Nat} {v : V} (h : H d = some (.dT kvs)) (ht : H t = some (.tup [.int a, .int b])) (ha : a = x.1) (hb : b = x.2) (hl : kvs.length < sizeLine) :
    DPut H d (.ref t) v (upd H d (.dT (putK kvs (key x) v))) := by
  subst ha hb
  exact DPut.t h ht hl
theorem hasP_put (kvs : DT) (x y : Nat × Nat) (v : V) : hasP (putK kvs (key x) v) y = (decide (y = x) || hasP kvs y) := by
  unfold hasP
  rw [valV_put]
  by_cases h : y = x
  · subst h
    simp
  · rw [if_neg (fun e => h (key_inj e))]
    simp [h]
/-! ### bounds of lists -/
theorem sub_len {α : Type} [DecidableEq α] : ∀ (l m : List α), l.Nodup → (∀ x ∈ l, x ∈ m) → l.length ≤ m.length
  | [], m, _, _ => Nat.zero_le _
  | x :: l, m, h, hs => by
    have hx : x ∈ m := hs x (List.mem_cons_self ..)
    have h1 := List.nodup_cons.mp h
    have h2 := sub_len l (m.erase x) h1.2 fun y hy => (List.mem_erase_of_ne (fun e => h1.1 (by rw [← e]; exact hy))).mpr (hs y (List.mem_cons_of_mem _ hy))
    rw [List.length_erase_of_mem hx] at h2
    have := List.length_pos_of_mem hx
    rw [List.length_cons]
    omega
def square (n : Nat) : List (Nat × Nat) := (List.range n).flatMap fun x => (List.range n).map fun y => (x, y)
theorem mem_square {n : Nat} {p : Nat × Nat} (h : p.1 < n ∧ p.2 < n) : p ∈ square n := by
  unfold square
  rw [List.mem_flatMap]
  exact ⟨p.1, List.mem_range.mpr h.1, List.mem_map.mpr ⟨p.2, List.mem_range.mpr h.2, rfl⟩⟩
theorem square_len (n : Nat) : (square n).length ≤ n * n := by
  have := flat_len (fun x : Nat => (List.range n).map fun y => (x, y)) n (fun x => by simp) (List.range n)
  rwa [List.length_range] at this
/-- the keys are pairs of points, each once -/
def KeysAre (n : Nat) (kvs : DT) (ks : List (Nat × Nat)) : Prop := kvs.map (·.1) = ks.map key ∧ (∀ k ∈ ks, k.1 < n ∧ k.2 < n) ∧ ks.Nodup
def KeysIn (n : Nat) (kvs : DT) : Prop := ∃ ks, KeysAre n kvs ks
theorem KeysIn.nil {n : Nat} : KeysIn n [] := ⟨[], rfl, by simp, List.nodup_nil⟩
theorem KeysAre.len {n : Nat} {kvs : DT} {ks : List (Nat × Nat)} (h : KeysAre n kvs ks) : kvs.length ≤ n * n := by
  obtain ⟨h1, h2, h3⟩ := h
  have e := congrArg List.length h1
  rw [List.length_map, List.length_map] at e
  have := sub_len ks (square n) h3 fun x hx => mem_square (h2 x hx)
  have := square_len n
  omega
theorem KeysIn.len {n : Nat} {kvs : DT} (h : KeysIn n kvs) : kvs.length ≤ n * n := h.elim fun _ x => x.len
theorem nodup_key : ∀ {ks : List (Nat × Nat)}, ks.Nodup → (ks.map key).Nodup
  | [], _ => List.nodup_nil
  | k :: ks, h => by
    have h1 := List.nodup_cons.mp h
    rw [List.map_cons, List.nodup_cons]
    refine ⟨fun hm => ?_, nodup_key h1.2⟩
    obtain ⟨k', hk, e⟩ := List.mem_map.mp hm
    exact h1.1 (key_inj e ▸ hk)
theorem KeysAre.put {n : Nat} {kvs : DT} {ks : List (Nat × Nat)} {x : Nat × Nat} {v : V} (h : KeysAre n kvs ks) (hx : x.1 < n ∧ x.2 < n) : KeysAre n (putK kvs (key x) v) (if x ∈ ks then ks else ks ++ [x]) := by
  obtain ⟨h1, h2, h3⟩ := h
  by_cases hm : x ∈ ks
  · rw [if_pos hm]
    refine ⟨?_, h2, h3⟩
    have ha : (kvs.any fun kv => decide (kv.1 = key x)) = true := by
      have : key x ∈ kvs.map (·.1) := by rw [h1]; exact List.mem_map.mpr ⟨x, hm, rfl⟩
      obtain ⟨kv, hkv, e⟩ := List.mem_map.mp this
      exact List.any_eq_true.mpr ⟨kv, hkv, decide_eq_true e⟩
    unfold putK
    rw [if_pos ha, List.map_map, ← h1]
    refine List.map_congr_left fun kv _ => ?_
    show (if kv.1 = key x then (kv.1, v) else kv).1 = kv.1
    split <;> rfl
  · rw [if_neg hm]
    have hn : valV kvs (key x) = none := by
      have ha : (kvs.any fun kv => decide (kv.1 = key x)) = false := by
        rw [← Bool.not_eq_true]
        intro ha
        obtain ⟨kv, hkv, e⟩ := List.any_eq_true.mp ha
        have h4 : kv.1 ∈ kvs.map (·.1) := List.mem_map.mpr ⟨kv, hkv, rfl⟩
        rw [h1, of_decide_eq_true e] at h4
        obtain ⟨k', hk, e2⟩ := List.mem_map.mp h4
        exact hm (key_inj e2 ▸ hk)
      rw [valV_any] at ha
      simpa using ha
    rw [putK_new v hn]
    refine ⟨by rw [List.map_append, List.map_append, h1]; rfl, fun k hk => ?_, ?_⟩
    · rcases List.mem_append.mp hk with hk | hk
      · exact h2 k hk
      · rw [List.mem_singleton.mp hk]
        exact hx
    · rw [List.nodup_append]
      exact ⟨h3, by simp, fun a ha b hb e => hm (by rw [List.mem_singleton] at hb; rw [← hb, ← e]; exact ha)⟩
theorem KeysIn.put {n : Nat} {kvs : DT} {x : Nat × Nat} {v : V} (h : KeysIn n kvs) (hx : x.1 < n ∧ x.2 < n) : KeysIn n (putK kvs (key x) v) := h.elim fun _ y => ⟨_, y.put hx⟩
theorem KeysIn.drop {n : Nat} {kvs : DT} {k : List Key} (h : KeysIn n kvs) : KeysIn n (dropK kvs k) := by
  obtain ⟨ks, h1, h2, h3⟩ := h
  refine ⟨ks.filter fun x => decide (key x ≠ k), ?_, fun x hx => h2 x (List.mem_filter.mp hx).1, h3.filter _⟩
  unfold dropK
  have : ∀ (kvs : DT) (ks : List (Nat × Nat)), kvs.map (·.1) = ks.map key → (kvs.filter fun kv => decide (kv.1 ≠ k)).map (·.1) = (ks.filter fun x => decide (key x ≠ k)).map key := by
    intro kvs
    induction kvs with
    | nil =>
      intro ks e
      cases ks with
      | nil => rfl
      | cons a b => simp at e
    | cons kv kvs ih =>
      intro ks e
      cases ks with
      | nil => simp at e
      | cons a ks =>
        simp only [List.map_cons, List.cons.injEq] at e
        rw [List.filter_cons, List.filter_cons, e.1]
        split
        · rw [List.map_cons, List.map_cons, ih ks e.2, e.1]
        · exact ih ks e.2
  exact this kvs ks h1
/-- a pair of whole numbers -/
def PrZ (H : Hp) (v : V) (x : Int × Int) : Prop := ∃ t, v = .ref t ∧ H t = some (.tup [.int x.1, .int x.2])
theorem persPrZ : PersT PrZ := fun _ _ _ _ k ⟨t, e, h⟩ => ⟨t, e, k _ _ h⟩
theorem pairedPt_eq {H : Hp} : ∀ {vs : List V} {xs : List Nat}, Paired (Pt H) vs xs → vs = xs.map pI
  | _, _, .nil => rfl
  | _, _, .cons h t => by rw [show _ = pI _ from h, pairedPt_eq t]; rfl
theorem pairedPt (H : Hp) : ∀ xs : List Nat, Paired (Pt H) (xs.map pI) xs
  | [] => .nil
  | _ :: xs => .cons rfl (pairedPt H xs)
theorem sxKt {d : Addr} {H H' : Hp} {kvs : DT} (x : SameX d H H') (h : H d = some (.dT kvs)) : KeepT H H' := fun a xs e => x a _ e (ne_of e h (by intro z; cases z))
theorem sxLt {d : Addr} {H H' : Hp} {ys : List V} (x : SameX d H H') (h : H d = some (.lst ys)) : KeepT H H' := fun a xs e => x a _ e (ne_of e h (by intro z; cases z))
theorem sxNew {d p : Addr} {H H' : Hp} {o : HO} (x : SameX d H H') (h : H' p = none) : SameX d H (upd H' p o) := fun a u e n => by
  have e2 := x a u e n
  rw [upd_ne (ne_of_none e2 h)]
  exact e2
theorem sxPut {d : Addr} {H H' : Hp} {o : HO} (x : SameX d H H') : SameX d H (upd H' d o) := x.trans SameX.put
/-- one more key -/
theorem put_step {n : Nat} {d t : Addr} {H H3 : Hp} {kvs : DT} {x : Nat × Nat} {v : V} {o : HO} (sx : SameX d H H3) (hd : H3 d = some (.dT kvs)) (hk : KeysIn n kvs) (ht : H3 t = none) (hx : x.1 < n ∧ x.2 < n) :
    SameX d H (upd (upd H3 t o) d (.dT (putK kvs (key x) v))) ∧ ∃ kvs', (upd (upd H3 t o) d (.dT (putK kvs (key x) v))) d = some (.dT kvs') ∧ KeysIn n kvs' :=
  ⟨sxPut (sxNew sx ht), _, upd_same, hk.put hx⟩
theorem keys_small {n : Nat} {kvs : DT} (h : KeysIn n kvs) (hn : n ≤ 1000) : kvs.length < sizeLine := by
  have h1 := h.len
  have h2 : n * n ≤ 1000 * 1000 := Nat.mul_le_mul hn hn
  exact sizeBig (by omega)
end Ns

/-! Own layer S: rules for dicts whose keys are tuples: pop of one that is there, sorted, dict(pairs), dict(d), len. -/
namespace Ns
open PySem PySem.Spec PyProof.Rows L2
def adr : Value → Addr
  | .ref a => a
  | _ => 0
/-- the pair of ints that stands at a place -/
def pkI (H : Hp) (t : Addr) : Int × Int := match H t with
  | some (.tup [.int i, .int j]) => (i, j)
  | _ => (0, 0)
theorem pkI_of {H : Hp} {t : Addr} {i j : Int} (h : H t = some (.tup [.int i, .int j])) : pkI H t = (i, j) := by unfold pkI; rw [h]
def pk (H : Hp) (t : Addr) : Nat × Nat := ((pkI H t).1.toNat, (pkI H t).2.toNat)
theorem pk_of {H : Hp} {t : Addr} {x : Nat × Nat} (h : H t = some (.tup [pI x.1, pI x.2])) : pk H t = x := by
  unfold pk
  rw [pkI_of h]
  exact Prod.ext rfl rfl
theorem keys_at {H : Hp} : ∀ {kvs : DT} {xs : List (List Key × Addr × Value)} {ks : List (Nat × Nat)}, KT H kvs xs → kvs.map (·.1) = ks.map key → Paired (fun (x : List Key × Addr × Value) k => H x.2.1 = some (.tup [pI k.1, pI k.2])) xs ks
  | [], [], [], .nil, _ => .nil
  | [], [], _ :: _, .nil, h => by simp at h
  | _ :: _, _ :: _, [], .cons _ _, h => by simp at h
  | kv :: kvs, x :: xs, k :: ks, .cons p t, h => by
    simp only [List.map_cons, List.cons.injEq] at h
    refine .cons ?_ (keys_at t h.2)
    have e := p.2.1
    rw [h.1] at e
    exact e
section
variable {X : Cx}
/-- sorted(d), the keys being pairs of points -/
def rSortedKT : List V → Hp → VK → Prop := fun vs H Q => ∃ (d : Addr) (kvs : DT) (ks : List (Nat × Nat)), vs = [V.ref d] ∧ Rd H d (.dT kvs) ∧ kvs.map (·.1) = ks.map key ∧
  ∀ (bs : List Addr) (ys : List (Nat × Nat)) (p : Addr), ys.Perm ks → ys.Pairwise (fun a b => ¬ ltP b a) → Paired (Pr H) (bs.map V.ref) ys → H p = none → Q (.ref p) (upd H p (.lst (bs.map V.ref)))
theorem cr_sortedKT (hc : X.calm = true) : CallR X (.builtin "sorted") rSortedKT := by
  intro pins s σ H vs us Q I r h
  obtain ⟨d, kvs, ks, rfl, hd, hks, q⟩ := h
  obtain ⟨u, rfl, rx⟩ := vals1 r
  cases rx
  obtain ⟨z, hs, xs, pr, o, es, ep, ho, hx, hdt, he, hn⟩ := (show ObjOk X.prog X.w H s.heap d (.dT kvs) from hd.ok I.hok)
  have l1 : es.size = xs.length := size_of_entries he
  have l2 : kvs.length = xs.length := Paired.length pr
  have hat := keys_at pr hks
  refine Calls.call_function_entry PyProof.Rows.kind_sorted PyProof.Rows.plain_sorted PyProof.Rows.entry_sorted (PyProof.Rows.args_sorted1 _) ?_
  unfold Builtin.«sorted»
  refine wpAny_bind (m := checkCount "sorted" 1 1 _) (wpAny_pure ?_)
  refine wpAny_bind (PySem.W.kdu_collect (A := X.A.in1) (kdl_raw hs hx hdt) (I.ok.hd hc) ho (by omega) fun h' tk acc hk it => ?_)
  have ea : acc.toList = xs.map fun x => Value.ref x.2.1 := by
    have hl : acc.toList.length = xs.length := by rw [Array.length_toList, it.1]; exact l1
    apply List.ext_getElem?
    intro j
    rw [List.getElem?_map]
    cases hj : acc.toList[j]? with
    | none =>
      have h1 := List.getElem?_eq_none_iff.mp hj
      rw [hl] at h1
      rw [List.getElem?_eq_none_iff.mpr h1] <;> rfl
    | some v =>
      obtain ⟨en, h1, h2⟩ := it.2 j v (by rw [← Array.getElem?_toList]; exact hj)
      have h3 : es.toList[j]? = some en := by rw [Array.getElem?_toList]; exact h1
      rw [he, List.getElem?_map] at h3
      cases hx2 : xs[j]? with
      | none => rw [hx2] at h3; cases h3
      | some x =>
        rw [hx2] at h3
        have h4 : _ = en := Option.some.inj h3
        rw [h2, ← h4]
        rfl
  have I1 : Inv X pins σ H { s with heap := h', toks := tk } := I.kept hk
  have hal : acc.toList.length ≤ sizeLine := by rw [ea, List.length_map, ← l2]; exact z
  refine wpAny_bind (wpAny_newList ?_ hal)
  have hoL : (h'.push (seqObj "list" acc.toList.toArray 0)).get? h'.objs.size = some (seqObj "list" acc.toList.toArray 0) := Heap.get?_push_size _ rfl
  have hxs : ∀ v ∈ acc.toList, ∃ (t : Addr) (k : Nat × Nat), v = Value.ref t ∧ H t = some (.tup [pI k.1, pI k.2]) := fun v hv => by
    rw [ea] at hv
    obtain ⟨x, hx1, rfl⟩ := List.mem_map.mp hv
    obtain ⟨k, _, hk2⟩ := pMemL hat hx1
    exact ⟨_, k, rfl, hk2⟩
  have hp : ∀ v ∈ acc.toList, Srt.IsPair (h'.push (seqObj "list" acc.toList.toArray 0)) v (pkI H (adr v)).1 (pkI H (adr v)).2 := fun v hv => by
    obtain ⟨t, k, rfl, ht⟩ := hxs v hv
    obtain ⟨_, its2, r2, o, ho, hc, n, hd⟩ := I1.hok _ _ ht
    obtain ⟨u1, u2, rfl, ri, rj⟩ := vals2 r2
    obtain ⟨t1, rfl⟩ := ri
    obtain ⟨t2, rfl⟩ := rj
    show Srt.IsPair _ _ (pkI H t).1 (pkI H t).2
    rw [pkI_of ht]
    exact ⟨t, o, t1, t2, n, rfl, Heap.get?_push_of_some _ ho, hc, hd⟩
  show wpAny _ _ _ _ _ { s with heap := h'.push (seqObj "list" acc.toList.toArray 0), toks := tk }
  refine wpAny_bind (wpAny_holding (wpAny_call_entry PyProof.Rows.slot_list_sort ⟨_, hoL, rfl⟩ PyProof.Rows.entry_list_sort
    (SrtO.list_sort_ord (s := { s with heap := h'.push (seqObj "list" acc.toList.toArray 0), toks := tk }) (SrtO.swo_lex fun u => pkI H (adr u)) hoL hal (fun h2 => SrtO.pairs_sortableO (by omega) hp fun o e => ?_) fun out h1 h2 => ⟨_, rfl, ?_⟩) (PyProof.Rows.args_list_sort _)))
  · have e' : some o = some (seqObj "list" acc.toList.toArray 0) := e.symm.trans hoL
    cases e'
    intro c
    exact absurd (Value.type.inj c) (by decide)
  · obtain ⟨e', he'⟩ := PyProof.Rows.sortedHeap_at (vs := acc.toList) (out := out.toArray) hoL
    have hout : ∀ u ∈ out, ∃ (t : Addr) (k : Nat × Nat), u = Value.ref t ∧ H t = some (.tup [pI k.1, pI k.2]) := fun u hu => hxs u (h2.perm.mem_iff.mp hu)
    have ebs : (out.map adr).map Value.ref = out := by
      rw [List.map_map]
      refine (List.map_congr_left fun u hu => ?_).trans (List.map_id _)
      obtain ⟨t, k, rfl, _⟩ := hout u hu
      rfl
    have hpr : Paired (Pr H) ((out.map adr).map V.ref) ((out.map adr).map (pk H)) := pMapL _ _ _ fun t ht => by
      obtain ⟨u, hu, rfl⟩ := List.mem_map.mp ht
      obtain ⟨t, k, rfl, hk2⟩ := hout u hu
      exact ⟨t, rfl, by rw [show adr (.ref t) = t from rfl, pk_of hk2]; exact hk2⟩
    have eks : (acc.toList.map adr).map (pk H) = ks := by
      rw [ea, List.map_map, List.map_map]
      have go : ∀ {xs : List (List Key × Addr × Value)} {ks : List (Nat × Nat)}, Paired (fun (x : List Key × Addr × Value) k => H x.2.1 = some (.tup [pI k.1, pI k.2])) xs ks → xs.map ((pk H ∘ adr) ∘ fun x => Value.ref x.2.1) = ks := fun {xs ks} p => by
        induction p with
        | nil => rfl
        | cons h t ih => rw [List.map_cons, ih, show ((pk H ∘ adr) ∘ fun x : List Key × Addr × Value => Value.ref x.2.1) _ = _ from pk_of h]
      exact go hat
    have hperm : ((out.map adr).map (pk H)).Perm ks := by
      rw [← eks]
      exact (h2.perm.map adr).map (pk H)
    have hsrt : ((out.map adr).map (pk H)).Pairwise (fun a b => ¬ ltP b a) := by
      rw [List.pairwise_map, List.pairwise_map]
      refine List.Pairwise.imp_of_mem (fun {u v} hu hv e => ?_) h1
      obtain ⟨t, k, rfl, hk2⟩ := hout u hu
      obtain ⟨t', k', rfl, hk3⟩ := hout v hv
      have e : SrtO.lexB (pkI H t') (pkI H t) = false := e
      show ¬ ltP (pk H t') (pk H t)
      rw [pk_of hk2, pk_of hk3]
      rw [pkI_of hk2, pkI_of hk3] at e
      have e2 := SrtO.lexB_no.mp e
      unfold ltP
      intro c
      exact e2 (show ((k'.1 : Int) < k.1 ∨ (k'.1 : Int) = k.1 ∧ (k'.2 : Int) < k.2) by omega)
    have hlen : ((out.map adr).map V.ref).length ≤ sizeLine := by
      rw [List.length_map, List.length_map, h2.len]
      exact hal
    have hv : Vals ((out.map adr).map V.ref) out := by
      have := vals_refs (out.map adr)
      rwa [ebs] at this
    refine wpAny_pure ⟨_, rfl, .ref h'.objs.size, upd H h'.objs.size (.lst ((out.map adr).map V.ref)), I1.laid (t' := tk) (fun b u e => ?_) (Nat.le_refl _)
      (show ObjOk X.prog X.w _ _ _ (.lst ((out.map adr).map V.ref)) from ⟨hlen, out, e', hv, he'⟩), rfl, q _ _ _ hperm hsrt hpr (I1.hok.fresh (Nat.le_refl _))⟩
    have hb : b < h'.objs.size := Heap.lt_size e
    rw [PyProof.Rows.sortedHeap_old (Nat.ne_of_lt hb) (by rw [size_push']; exact Nat.lt_succ_of_lt hb)]
    exact Heap.get?_push_of_some _ e
end
end Ns
namespace Ns
open PySem PySem.Spec PyProof.Rows L2
section
variable {prog : Program} {w : World} {K : Type} [DecidableEq K] {knd : KeyKind prog w K}
/-- d.pop(k), k being there -/
theorem meetsPop1 {d b : Addr} {k : List K} (hd : (d == sysModules) = false) :
    MeetsIn prog w (Builtin.«dict.pop» ⟨[.ref d, .ref b], []⟩) (fun A R s => ∃ xs, (tupleKind knd).room A.in1 ∧ (tupleKind knd).is s.heap k b ∧ s.heap.DictOfH (tupleKind knd) d xs ∧ xs.length ≤ sizeLine ∧
      (∃ p, atKey xs k = some p) ∧
      ∀ p, atKey xs k = some p → ∀ h' tk, h'.DictOfH (tupleKind knd) d (DT.dropH xs k) → Heap.SameBut d s.heap h' → R (.ok (.ret p.2)) { s with heap := h', toks := tk }) :=
  .of_wp fun A R s ⟨xs, hu, hkey, hm, hsz, hthere, hsome⟩ => by
    obtain ⟨o, es, ep, ho, hc, hdat, he, his, hn⟩ := id hm
    have hes : es.size = xs.length := size_of_entries he
    have hpart : (keyPart (Value.ref b)).isSome = false := rfl
    unfold Builtin.«dict.pop»
    refine wpAny_bind ?_
    unfold Builtin.Dict.keyAndDefault
    refine wpAny_bind (wpAny_notOrdered_dict hm.typeIs ?_)
    show wpAny _ _ (pure (d, Value.ref b, none)) _ _ s
    refine wpAny_pure ?_
    simp only [hpart, Bool.false_eq_true, if_false]
    refine wpAny_bind (wpAny_dictEntries ho hdat (wpAny_bind (wpAny_pure ?_)))
    cases hem : es.isEmpty with
    | true =>
      have h0 : xs = [] := by
        have z : es.size = 0 := by simpa using hem
        exact List.length_eq_zero_iff.mp (by omega)
      obtain ⟨p, hp⟩ := hthere
      rw [h0] at hp
      cases hp
    | false =>
      simp only [Bool.false_eq_true, if_false]
      refine wpAny_bind (DT.takeH hu hkey hm hsz (fun hno => ?_) fun p e hp hev h' hm' hs' => ?_)
      · obtain ⟨p, hp⟩ := hthere
        rw [hno] at hp
        cases hp
      · simp only [Option.isNone_some, Bool.false_eq_true, if_false]
        exact wpAny_bind (wpAny_letGo (wpAny_pure ⟨e.val, rfl, by rw [hev]; exact hsome p hp h' _ hm' hs'⟩))
end
section
variable {X : Cx}
def rPop1T : V → List V → Hp → VK → Prop := fun x xs H Q => ∃ (a : Addr) (kvs : DT) (k : List Key) (b : Addr) (v : V), x = .ref a ∧ xs = [.ref b] ∧ H a = some (.dT kvs) ∧ H b = some (.tup (k.map kV)) ∧
  valV kvs k = some v ∧ Q v (upd H a (.dT (dropK kvs k)))
theorem mt_pop1T (hu : X.A.units + 1 < cLine) : MtR X "dict.pop" rPop1T := by
  intro pins s σ H x xs v us Q I rx rxs h
  obtain ⟨a, kvs, k, b, v0, rfl, rfl, ha, hb, hv, q⟩ := h
  cases rx
  obtain ⟨u1, rfl, r1⟩ := vals1 rxs
  cases r1
  obtain ⟨z, hd, xs', rel, dd⟩ := dt_of I.hok ha
  have hz : xs'.length ≤ sizeLine := by rw [← Paired.length rel]; exact z
  have r := rel.val k
  rw [hv] at r
  obtain ⟨p0, hp0, rv0⟩ : ∃ p0, atKey xs' k = some p0 ∧ RelV v0 p0.2 := by
    cases hp : atKey xs' k with
    | none => rw [hp] at r; exact (show False from r).elim
    | some p0 => rw [hp] at r; exact ⟨p0, rfl, r⟩
  refine call_meetsIn PySem.F.slot_dict_pop dd.typeIs PySem.F.entry_dict_pop (PySem.F.args_dict_pop_2 _ _) (meetsPop1 (knd := mixKind X.prog X.w) (k := k) hd)
    ⟨xs', tupleKind_room_in1 hu, key_of I.hok hb, dd, hz, ⟨p0, hp0⟩, fun p hp h' tk dd' hs => ?_⟩
  rw [hp0] at hp
  cases hp
  obtain ⟨o, es, ep, hq, h2, h3, h4, _, h5⟩ := dd'
  have I2 : Inv X pins σ (upd H a (.dT (dropK kvs k))) { s with heap := h', toks := tk } :=
    d_write I (by rw [ha]; exact True.intro) hs ⟨o, hq⟩ ⟨Nat.le_trans (dropK_le kvs k) z, hd, _, (L2.DX.KT_drop k rel).keeps (fun c ys ec => (by rw [upd_ne (ne_of ec ha (fun z => nomatch z))]; exact ec)), o, es, ep, hq, h2, h3, h4, h5⟩
  show EP X pins σ Q p0.2 _
  exact ⟨v0, _, I2, rv0, q⟩
end
end Ns
namespace Ns
open PySem PySem.Spec PyProof.Rows L2
/-! ### dict(pairs), the keys being tuples -/
def mergeT (kvs more : DT) : DT := more.foldl (fun acc kv => putK acc kv.1 kv.2) kvs
theorem mergeT_len : ∀ (more kvs : DT), (mergeT kvs more).length ≤ kvs.length + more.length
  | [], kvs => by simp [mergeT]
  | kv :: more, kvs => by
    have h1 := mergeT_len more (putK kvs kv.1 kv.2)
    have h2 := length_putK kvs kv.1 kv.2
    rw [List.length_cons]
    show (mergeT (putK kvs kv.1 kv.2) more).length ≤ _
    omega
theorem kt_merge {H : Hp} : ∀ (more : DT) (ps : List (List Key × Addr × Value)) (kvs : DT) (xs : List (List Key × Addr × Value)), KT H more ps → KT H kvs xs → KT H (mergeT kvs more) (storedAllH xs ps)
  | [], [], _, _, _, h => h
  | kv :: more, x :: ps, kvs, xs, .cons p t, h => by
    have e := p.1
    have h2 : KT H (putK kvs kv.1 kv.2) (storedH xs x.1 x.2.1 x.2.2) := by
      rw [← e]
      exact h.put _ p.2.1 p.2.2
    exact kt_merge more ps _ _ t h2
section
variable {X : Cx}
/-- the pairs that stand in a list -/
def PairsT (H : Hp) (ps : List Addr) (kvs : DT) : Prop := Paired (fun p (kv : List Key × V) => ∃ b, H p = some (.tup [.ref b, kv.2]) ∧ H b = some (.tup (kv.1.map kV))) ps kvs
theorem pairsT_vals {P : Program} {w : World} {H : Hp} {h : Heap} (ok : HOk P w H h) : ∀ {ps : List Addr} {kvs : DT}, PairsT H ps kvs → ∃ xs : List (List Key × Addr × Value), KT H kvs xs ∧ Paired (fun p (x : List Key × Addr × Value) => h.IsTuple p #[.ref x.2.1, x.2.2]) ps xs
  | _, _, .nil => ⟨[], .nil, .nil⟩
  | _, _, .cons ⟨b, h1, h2⟩ t => by
    obtain ⟨xs, k1, k2⟩ := pairsT_vals ok t
    obtain ⟨_, its2, r2, o, ho, hc, n, hd⟩ := ok _ _ h1
    obtain ⟨u1, u2, rfl, ri, rj⟩ := vals2 r2
    cases ri
    exact ⟨(_, b, u2) :: xs, .cons ⟨rfl, h2, rj⟩ k1, .cons ⟨o, ho, hc, n, hd⟩ k2⟩
def rDictOfT (K : PySem.W.Frag) : List V → Hp → VK → Prop := fun xs H Q => ∃ (a : Addr) (ps : List Addr) (kvs : DT), xs = [.ref a] ∧ SqL K H a (ps.map V.ref) ∧ PairsT H ps kvs ∧ ∀ p, H p = none → Q (.ref p) (upd H p (.dT (mergeT [] kvs)))
theorem call_dictT {K : PySem.W.Frag} (hK : X.K = K) (hc : X.calm = true) (hu : X.A.units + 100 < cLine) : CallR X (.type "dict") (rDictOfT K) := by
  subst hK
  intro pins s σ H vs us Q I r h
  obtain ⟨a, ps, kvs, rfl, hs, hp, q⟩ := h
  obtain ⟨u, rfl, rx⟩ := vals1 r
  cases rx
  obtain ⟨its, rv, pl, hz⟩ := I.list hs
  have ei := refs_at rv
  subst ei
  obtain ⟨xs, kt, pr⟩ := pairsT_vals I.hok hp
  have lp := Paired.length pr
  rw [List.length_map] at hz
  obtain ⟨o, n, ho, hcl, hdd, hdat⟩ := pl
  have sysm : (s.heap.objs.size == sysModules) = false := beq_eq_false_iff_ne.mpr (Nat.ne_of_gt I.big)
  refine PySem.call_dict_pairsH (knd := tupleKind (mixKind X.prog X.w)) (ps := xs) (n := (xs.map fun x => ((Value.ref x.2.1 : Value), x.2.2)).length)
    (PairArg.list a (ps.map Value.ref).toArray (fun j => ps.getD j 0) (xs.map fun x => (Value.ref x.2.1, x.2.2))) (I.ok.hd hc) (tupleKind_room_in1 (by show X.A.units + 1 + 1 < cLine; omega)) ⟨⟨o, n, ho, hcl, hdd, hdat⟩, ?gsize, ?gitems⟩ ⟨by simp, ?ghave⟩ ?gstay ?glen fun h' tk hd' hk => ?gend
  case gsize =>
    simp [lp]
  case gitems =>
    intro j k v hj
    rw [List.getElem?_map] at hj
    cases hx : xs[j]? with
    | none => rw [hx] at hj; cases hj
    | some x =>
      rw [hx] at hj
      cases hj
      obtain ⟨p, h1, h2⟩ := pAt pr hx
      refine ⟨?_, ?_⟩
      · simp [h1]
      · show PairAt s.heap (ps.getD j 0) _ _
        rw [show ps.getD j 0 = p by simp [List.getD, h1]]
        exact .inl h2
  case ghave =>
    intro i key v hi
    have hi : (xs.map fun x => ((Value.ref x.2.1 : Value), x.2.2))[i]? = some (key, v) := hi
    rw [List.getElem?_map] at hi
    cases hx : xs[i]? with
    | none => rw [hx] at hi; cases hi
    | some x =>
      rw [hx] at hi
      cases hi
      exact ⟨x.1, x.2.1, rfl, rfl⟩
  case gstay =>
    intro h' hk x hx
    have hok : HOk X.prog X.w H h' := fun b ob e => (I.hok b ob e).stay (fun c u _ e2 => hk c u (Nat.ne_of_lt (Heap.lt_size e2)) (by simp) e2) (fun _ q => q) (fun _ _ q => q)
    obtain ⟨kv, hkv, e1, e2, _⟩ := pMem kt hx
    rw [← e1]
    exact key_of hok e2
  case glen =>
    simp only [List.length_map]
    omega
  case gend =>
    have hlen : (mergeT [] kvs).length ≤ sizeLine := by
      have h1 := mergeT_len kvs []
      have h2 := Paired.length kt
      simp at h1
      omega
    have hfr := I.hok.fresh (a := s.heap.objs.size) (Nat.le_refl _)
    obtain ⟨o2, es, ep, hq, h2, h3, h4, _, h5⟩ := hd'
    refine ⟨.ref s.heap.objs.size, upd H s.heap.objs.size (.dT (mergeT [] kvs)), I.laid (t' := tk) (fun b u e => hk b u (by simp) e) (Nat.le_refl _) (show ObjOk X.prog X.w _ _ _ (.dT (mergeT [] kvs)) from ⟨hlen, sysm, storedAllH [] xs, ?_, o2, es, ep, hq, h2, h3, h4, h5⟩), rfl, q _ hfr⟩
    exact (kt_merge kvs xs [] [] kt .nil).keeps fun b ys e => by
      rw [upd_ne (ne_of_none e hfr)]
      exact e
end
end Ns
namespace Ns
open PySem PySem.Spec PyProof.Rows L2
/-! ### t.index(x), whole numbers -/
theorem flat_ints (ys : List Int) : (ys.map V.int).all flatV = true := by
  rw [List.all_map]
  exact List.all_eq_true.mpr fun _ _ => rfl
section
variable {X : Cx}
def rTIndex (K : PySem.W.Frag) : V → List V → Hp → VK → Prop := fun x xs H Q => ∃ (p : Addr) (ys : List Int) (z : Int) (j : Nat), x = .ref p ∧ xs = [.int z] ∧ SqT K H p (ys.map V.int) ∧ ys[j]? = some z ∧ (∀ m, m < j → ys[m]? ≠ some z) ∧ Q (.int (j : Nat)) H
theorem mt_tindex {K : PySem.W.Frag} (hK : X.K = K) : MtR X "tuple.index" (rTIndex K) := by
  subst hK
  intro pins s σ H x xs v us Q I rx rs h
  obtain ⟨p, ys, z, j, rfl, rfl, hq, hy, hno, q⟩ := h
  cases rx
  obtain ⟨u, rfl, t, rfl⟩ := vals1 rs
  obtain ⟨its, r, pl, hz⟩ := I.tuple hq
  obtain ⟨⟨cls, dd, dt, sl⟩, ho, hc, n, hd⟩ := pl
  simp only at hc hd
  subst hc
  subst hd
  have hl : its.toArray.size = ys.length := by rw [List.size_toArray, ← r.length, List.length_map]
  have hj : j < its.toArray.size := by rw [hl]; exact (List.getElem?_eq_some_iff.mp hy).1
  have at' : ∀ (m : Nat) (hm : m < its.toArray.size), ∃ y t', ys[m]? = some y ∧ its.toArray[m] = Value.int y t' := fun m hm => by
    have hm' : m < ys.length := by rw [← hl]; exact hm
    obtain ⟨w, hw, t', hw'⟩ := r.get (i := m) (x := .int ys[m]) (by simp [hm'])
    refine ⟨ys[m], t', List.getElem?_eq_getElem hm', ?_⟩
    have e := (List.getElem?_eq_some_iff.mp hw).2
    rw [← hw', ← e]
    simp
  refine call_meets PySem.F.slot_tuple_index ⟨_, ho, rfl⟩ PySem.F.entry_tuple_index (PySem.F.args_tuple_index_2 _ _) (TI.tuple_indexAt p its.toArray n dd sl (.int z t) (eqU (.int z)) j hj ?_ ?_)
    ⟨ho, fun w hw => mem_eqAt (x := .int z) ⟨t, rfl⟩ rfl r (flat_ints ys) w (by simpa using hw), ⟨.int (j : Nat), H, I.tok _, ⟨_, rfl⟩, q⟩⟩
  · obtain ⟨y, t', h1, h2⟩ := at' j hj
    rw [hy] at h1
    cases h1
    rw [h2]
    show (z == z) = true
    exact beq_self_eq_true z
  · intro m hm hmj
    obtain ⟨y, t', h1, h2⟩ := at' m hm
    rw [h2]
    show (y == z) = false
    exact beq_eq_false_iff_ne.mpr fun e => hno m hmj (e ▸ h1)
end
end Ns
namespace Ns
open PySem PySem.Spec PyProof.Rows L2
/-! ### tuples whose object is known -/
section
variable {X : Cx}
/-- tuple(xs) of a list: the new tuple's object is known, it has no dict -/
def rTupOfF (K : PySem.W.Frag) : List V → Hp → VK → Prop := fun xs H Q => ∃ p ys, xs = [.ref p] ∧ SqL K H p ys ∧ ∀ (l : Addr) (o : Obj), H l = none → o.dict = none → Q (.ref l) (upd H l (.frz o (.tup ys)))
theorem call_tuple_ofF {K : PySem.W.Frag} (hK : X.K = K) : CallR X (.type "tuple") (rTupOfF K) := by
  subst hK
  intro pins s σ H xs us Q I r h
  obtain ⟨p, ys, rfl, hq, q⟩ := h
  obtain ⟨u, rfl, rx⟩ := vals1 r
  cases rx
  obtain ⟨its, r', pl, hz⟩ := I.list hq
  have hlen := r'.length
  refine call_tuple_list pl.isList (fun h' kp => ?_) (by simp only [List.size_toArray] <;> omega)
  have I1 : Inv X pins σ H { s with heap := h' } := I.kept (t' := s.toks) kp
  have I2 : Inv X pins σ (upd H h'.objs.size (.frz { cls := .type "tuple", data := .seq its.toArray } (.tup ys))) { s with heap := h'.push { cls := .type "tuple", data := .seq its.toArray } } :=
    I1.laid (t' := s.toks) (fun b o e => Heap.get?_push_of_some _ e) (Nat.le_refl _) (show ObjOk X.prog X.w _ _ _ (.frz _ (.tup ys)) from ⟨Heap.get?_push_size _ rfl, hz, its, r', IsTup.new _ _⟩)
  exact ⟨.ref h'.objs.size, _, I2, rfl, q _ _ (I1.hok.fresh (Nat.le_refl _)) rfl⟩
variable {o e : Expr} {es : List Expr} {to : TE} {t : TA} {name : Str} {apos cpos : Pos} {id : String} {r : V → List V → Hp → VK → Prop}
def tBMF (r : V → List V → Hp → VK → Prop) (to : TE) (t : TA) : TE := fun σ H Q => to σ H fun x H1 => (∃ (p : Addr) (o : Obj) (xs : List V), x = .ref p ∧ H1 p = some (.frz o (.tup xs)) ∧ o.dict = none) ∧ t σ H1 fun xs H2 => r x xs H2 Q
/-- a method of a tuple whose object is known -/
theorem pe_bmF (pa : PlainAttrs "tuple") (slot : Slot "tuple" name id) (hty : typeOf (.builtin id) = pure (.type "method_descriptor")) (hm : MtR X id r) (ho : PE X o to) (ha : PA X (e :: es) t)
    (hbase : attributeBase o name X.env (eval o X.env) = eval o X.env := by rfl)
    (hfew : ((backTo cpos (starEach (e :: es) X.env)).all (fun x => !x.1) && (backToKw cpos (keywordEach [] X.env)).all (fun x => x.1.isSome)
      && decide ((e :: es).length + ([] : List Keyword).length + (if ([] : List Keyword).isEmpty then 0 else 1) < 30)) = true := by rfl)
    (hline : (apos.endLine == cpos.line) = true := by rfl) (hs : starEach (e :: es) X.env = (false, eval e X.env) :: starEach es X.env := by rfl) (hplain : (backTo cpos (starEach es X.env)).any (·.1) = false := by rfl) :
    PE X (.Call (.Attribute o name apos) (e :: es) [] cpos) (tBMF r to t) := by
  refine ⟨fun pins s σ H Q I h => ?_⟩
  refine wpAny_Call_method_late hbase hfew hline rfl (thn (ho.run pins s σ H _ I h) fun v s1 ⟨x, H1, I1, r1, ty, q1⟩ => ?_)
  obtain ⟨p, ob, xs, ex, hp, hd⟩ := ty
  subst ex
  have r1' := r1
  cases r1
  obtain ⟨hg, hz, its, rv, o2, ho2, hc2, n2, hd2⟩ := (show ObjOk X.prog X.w H1 s1.heap p (.frz ob (.tup xs)) from I1.hok p _ hp)
  refine ⟨"tuple", id, pa, slot, hty, ⟨o2, ho2, hc2⟩, fun a e => ?_, ?_⟩
  · cases e
    exact ⟨ob, hg, hd⟩
  · have hA := ha.run cpos pins s1 σ H1 _ I1 q1
    rw [hs] at hA ⊢
    refine Calls.callWith_builtin (by show (false || (backTo cpos (starEach es X.env)).any (·.1)) = false; rw [hplain] <;> rfl) (Calls.evalArgs_plain ?_)
    exact thn hA fun us s2 ⟨vs, H2, I2, r2, q2⟩ => hm pins s2 σ H2 _ vs _ us Q I2 r1' r2 q2
end
end Ns

/-! Own layer M: lists of lists: made by comprehensions, tables of truth values, stores into them. -/
namespace Ns
open PySem PySem.Spec PyProof.Rows L2
theorem fm_if {α β : Type} (p : α → Bool) (g : α → β) : ∀ l : List α, (l.filterMap fun x => if p x = true then some (g x) else none) = (l.filter p).map g
  | [] => rfl
  | x :: l => by
    rw [List.filterMap_cons, List.filter_cons]
    by_cases h : p x = true
    · rw [if_pos h, if_pos h, fm_if p g l]
      rfl
    · rw [if_neg h, if_neg h, fm_if p g l]
theorem fm_id {α : Type} (p : α → Bool) (l : List α) : (l.filterMap fun x => if p x = true then some x else none) = l.filter p := by
  rw [fm_if p (fun x => x), List.map_id']
theorem gone {H H' : Hp} {p : Addr} (s : Same H H') (h : H' p = none) : H p = none := by
  cases q : H p with
  | none => rfl
  | some o =>
    have e := (s _ _ q).symm.trans h
    cases e
/-- pairs of points that names hold -/
def pairsT : List (Nat × Nat) → TA
  | [] => tNil
  | i :: r => tCons (tTup (tCons (tVar i.1) (tCons (tVar i.2) tNil))) (pairsT r)
theorem rdPairs {σ : L2.St} : ∀ {ix vals : List (Nat × Nat)} {H : Hp} {Q : List V → Hp → Prop}, Paired (fun (i p : Nat × Nat) => σ[i.1]? = some (some (pI p.1)) ∧ σ[i.2]? = some (some (pI p.2))) ix vals →
    (∀ us H', Same H H' → Paired (Pr H') us vals → Q us H') → pairsT ix σ H Q
  | _, _, H, Q, .nil, q => q [] H (Same.refl H) .nil
  | _, _, H, Q, .cons ⟨h1, h2⟩ r, q => by
    refine ⟨_, h1, _, h2, by show 2 ≤ sizeLine; decide, fun t ht => rdPairs r fun us H' s pr => ?_⟩
    exact q _ H' ((same_laid ht).trans s) (.cons ⟨t, rfl, s _ _ upd_same⟩ pr)
theorem lstP {σ : L2.St} {ix vals : List (Nat × Nat)} {H : Hp} {Q : VK} (hz : vals.length ≤ 1000) (h : Paired (fun (i p : Nat × Nat) => σ[i.1]? = some (some (pI p.1)) ∧ σ[i.2]? = some (some (pI p.2))) ix vals)
    (q : ∀ (p : Addr) (us : List V) (H' : Hp), Same H H' → H p = none → H' p = some (.lst us) → Paired (Pr H') us vals → Q (.ref p) H') : tLst (pairsT ix) σ H Q := by
  refine rdPairs h fun us H' s pr => ⟨?_, fun p hp => ?_⟩
  · rw [pr.length]
    exact Nat.le_of_lt (sizeBig (by omega))
  · exact q p us _ (sNew s hp) (gone s hp) upd_same (pMono persPr (sKt (same_laid hp)) pr)
theorem cutV_take {xs : List V} {k : Nat} : cutV xs none (some (k : Int)) = xs.take k := by
  unfold cutV
  show ((xs.drop 0).take (HT.sIx xs.length xs.length (some (k : Int)) - 0)) = _
  rw [HT.sIx_nat, List.drop_zero, Nat.sub_zero]
  by_cases h : k ≤ xs.length
  · rw [Nat.min_eq_left h]
  · rw [Nat.min_eq_right (by omega), List.take_of_length_le (Nat.le_refl _), List.take_of_length_le (by omega)]
theorem catP {α : Type} {R : Hp → V → α → Prop} (hR : PersT R) {K : PySem.W.Frag} {H : Hp} {Q : VK} {x y : V} {as bs : List α} (hx : Tup R H x as) (hy : Tup R H y bs) (hz : as.length + bs.length ≤ 1000) (hne : bs ≠ [])
    (q : ∀ v H', Same H H' → Tup R H' v (as ++ bs) → Q v H') : rCatA K x y H Q := by
  obtain ⟨a, xs, rfl, ha, pa⟩ := hx
  obtain ⟨b, ys, rfl, hb, pb⟩ := hy
  have l1 := pa.length
  have l2 := pb.length
  refine ⟨a, b, xs, ys, rfl, rfl, SqT.of ha, SqT.of hb, Nat.le_of_lt (sizeBig (by omega)), fun e => ?_, fun _ e => ?_, fun _ _ p hp => ?_⟩
  · subst e
    cases pa
    exact q _ H (Same.refl H) ⟨b, ys, rfl, hb, pb⟩
  · subst e
    cases pb
    exact absurd rfl hne
  · exact q _ _ (same_laid hp) ⟨p, _, rfl, upd_same, pMono hR (sKt (same_laid hp)) (pApp pa pb)⟩
/-- lists with these contents, each by itself, all new since H1, none of them D -/
def Rws (H1 H : Hp) (D : Addr) (rows : List Addr) (cs : List (List V)) : Prop := rows.Nodup ∧ Paired (fun a c => H a = some (.lst c) ∧ a ≠ D ∧ H1 a = none) rows cs
theorem Rws.put {H1 H H4 : Hp} {D a : Addr} {rows : List Addr} {cs : List (List V)} {c : List V} {o : HO} (x : Rws H1 H D rows cs) (sm : Same H H4) (n1 : H1 a = none) (nD : a ≠ D) (n : H a = none) (e : H4 a = some (.lst c)) : Rws H1 (upd H4 D o) D (rows ++ [a]) (cs ++ [c]) := by
  obtain ⟨nd, pr⟩ := x
  have hn : a ∉ rows := fun h => by
    obtain ⟨c', _, h1, _⟩ := pMemL pr h
    rw [n] at h1
    cases h1
  refine ⟨?_, pApp ?_ (.cons ⟨by rw [upd_ne nD]; exact e, nD, n1⟩ .nil)⟩
  · rw [List.nodup_append]
    refine ⟨nd, by simp, fun u hu v hv e => hn ?_⟩
    rw [List.mem_singleton] at hv
    rw [← hv, ← e]
    exact hu
  · clear hn nd
    induction pr with
    | nil => exact .nil
    | cons h t ih => exact .cons ⟨by rw [upd_ne h.2.1]; exact sm _ _ h.1, h.2⟩ ih
section
variable {g : TG} {tt : TT} {te : TE} {vs : List Nat} {σ : L2.St} {H1 : Hp} {D : Addr} {Qd : Hp → Prop}
/-- [new list for i in range] -/
theorem comp_rows {lo : Int} {n : Nat} (hn : n < sizeLine) (c : Nat → List V) (hD : H1 D = none)
    (hs : ∀ (i : Nat) (H : Hp) (Yes : V → Hp → Prop) (No : Hp → Prop), i < n → Same H1 H → (∀ a H4, Same H H4 → H a = none → H4 a = some (.lst (c i)) → Yes (.ref a) H4) →
      g (.int (lo + i)) (wipe σ vs) H fun σ2 H2 => wipe σ2 vs = wipe σ vs ∧ tt σ2 H2 fun b H3 => if b = true then te σ2 H3 Yes else No H3)
    (hd : ∀ H rows, Same H1 H → H D = some (.lst (rows.map V.ref)) → Rws H1 H D rows ((List.range n).map c) → Qd H) :
    ∃ W : Nat → Nat → Hp → Prop, (∃ m, W 0 m (upd H1 D (.lst []))) ∧ ∀ i m H, W i m H →
      ((Itr lo n).stop i H ∧ Qd H) ∨ ((Itr lo n).go i H ∧ ∃ Nx : Hp → Prop, (∀ H', Nx H' → ∃ m', m' < m ∧ W (i + 1) m' H') ∧ ∀ x H', (Itr lo n).yld i H x H' → g x (wipe σ vs) H' fun σ2 H2 => wipe σ2 vs = wipe σ vs ∧ tt σ2 H2 fun b H3 =>
        if b = true then te σ2 H3 fun y H4 => ∃ acc, H4 D = some (.lst acc) ∧ acc.length < sizeLine ∧ Nx (upd H4 D (.lst (acc ++ [y]))) else Nx H3) := by
  refine lc_range (lo := lo) (n := n) (fun i H => Same H1 H ∧ ∃ rows, H D = some (.lst (rows.map V.ref)) ∧ Rws H1 H D rows ((List.range i).map c) ∧ rows.length = i) ⟨same_laid hD, [], upd_same, ⟨.nil, .nil⟩, rfl⟩ ?_ ?_
  · rintro i H hi ⟨sm, rows, hy, rw, hl⟩
    refine hs i H _ _ hi sm fun a H4 s4 na ea => ?_
    have nD : a ≠ D := fun e => by rw [e, hy] at na; cases na
    have n1 : H1 a = none := by
      cases q : H1 a with
      | none => rfl
      | some o => rw [sm _ _ q] at na; cases na
    refine ⟨rows.map V.ref, s4 _ _ hy, by rw [List.length_map]; omega, sPut (sm.trans s4) hD, rows ++ [a], ?_, ?_, by rw [List.length_append, hl]; rfl⟩
    · rw [upd_same, List.map_append]
      rfl
    · rw [List.range_succ, List.map_append]
      exact rw.put s4 n1 nD na ea
  · rintro H ⟨sm, rows, hy, rw, hl⟩
    exact hd H rows sm hy rw
/-- [new list for one in list] -/
theorem comp_rowsL {α : Type} {K : PySem.W.Frag} {a : Addr} {us : List V} {ds : List α} (c : α → List V) (R : Hp → V → α → Prop) (hD : H1 D = none)
    (hl : H1 a = some (.lst us)) (hn : us.length < sizeLine) (hp : ∀ H, Same H1 H → Paired (R H) us ds)
    (hs : ∀ (d : α) (x : V) (H : Hp) (Yes : V → Hp → Prop) (No : Hp → Prop), d ∈ ds → R H x d → Same H1 H → (∀ a H4, Same H H4 → H a = none → H4 a = some (.lst (c d)) → Yes (.ref a) H4) →
      g x (wipe σ vs) H fun σ2 H2 => wipe σ2 vs = wipe σ vs ∧ tt σ2 H2 fun b H3 => if b = true then te σ2 H3 Yes else No H3)
    (hd : ∀ H rows, Same H1 H → H D = some (.lst (rows.map V.ref)) → Rws H1 H D rows (ds.map c) → Qd H) :
    ∃ W : Nat → Nat → Hp → Prop, (∃ m, W 0 m (upd H1 D (.lst []))) ∧ ∀ i m H, W i m H →
      ((Itl K a).stop i H ∧ Qd H) ∨ ((Itl K a).go i H ∧ ∃ Nx : Hp → Prop, (∀ H', Nx H' → ∃ m', m' < m ∧ W (i + 1) m' H') ∧ ∀ x H', (Itl K a).yld i H x H' → g x (wipe σ vs) H' fun σ2 H2 => wipe σ2 vs = wipe σ vs ∧ tt σ2 H2 fun b H3 =>
        if b = true then te σ2 H3 fun y H4 => ∃ acc, H4 D = some (.lst acc) ∧ acc.length < sizeLine ∧ Nx (upd H4 D (.lst (acc ++ [y]))) else Nx H3) := by
  have hlen := (hp H1 (Same.refl H1)).length
  refine lc_list (K := K) (a := a) (xs := us) (fun i H => Same H1 H ∧ ∃ rows, H D = some (.lst (rows.map V.ref)) ∧ Rws H1 H D rows ((ds.take i).map c) ∧ rows.length = i) ⟨same_laid hD, [], upd_same, ⟨.nil, .nil⟩, rfl⟩ (fun i H _ p => SqL.of (p.1 _ _ hl)) ?_ ?_
  · rintro i x H hi ⟨sm, rows, hy, rw, hll⟩
    obtain ⟨d, hat, hrs⟩ := pAtL (hp H sm) hi
    have hi2 := (List.getElem?_eq_some_iff.mp hi).1
    refine hs d x H _ _ (List.mem_of_getElem? hat) hrs sm fun a H4 s4 na ea => ?_
    have nD : a ≠ D := fun e => by rw [e, hy] at na; cases na
    have n1 : H1 a = none := by
      cases q : H1 a with
      | none => rfl
      | some o => rw [sm _ _ q] at na; cases na
    refine ⟨rows.map V.ref, s4 _ _ hy, by rw [List.length_map]; omega, sPut (sm.trans s4) hD, rows ++ [a], ?_, ?_, by rw [List.length_append, hll]; rfl⟩
    · rw [upd_same, List.map_append]
      rfl
    · rw [List.take_add_one, hat, List.map_append]
      exact rw.put s4 n1 nD na ea
  · rintro H ⟨sm, rows, hy, rw, hll⟩
    rw [hlen, List.take_of_length_le (Nat.le_refl _)] at rw
    exact hd H rows sm hy rw
end
/-! ### tables of truth values -/
abbrev Tm := Nat → Nat → Bool
def rowV (n : Nat) (f : Nat → Bool) : List V := (List.range n).map fun j => V.bl (f j)
theorem rowV_len (n : Nat) (f : Nat → Bool) : (rowV n f).length = n := by simp [rowV]
theorem rowV_at {n : Nat} {f : Nat → Bool} {j : Nat} (h : j < n) : (rowV n f)[j]? = some (.bl (f j)) := by simp [rowV, h]
theorem rowV_set {n : Nat} {f : Nat → Bool} {j : Nat} {b : Bool} : (rowV n f).set j (.bl b) = rowV n fun k => if k = j then b else f k := by
  apply List.ext_getElem?
  intro k
  rw [List.getElem?_set, rowV_len]
  by_cases hk : k < n
  · rw [rowV_at hk, rowV_at hk]
    by_cases e : k = j
    · subst e
      rw [if_pos rfl, if_pos hk, if_pos rfl]
    · rw [if_neg (fun h => e h.symm), if_neg e]
  · have h1 : (rowV n f)[k]? = none := List.getElem?_eq_none_iff.mpr (by rw [rowV_len]; omega)
    have h2 : (rowV n fun k => if k = j then b else f k)[k]? = none := List.getElem?_eq_none_iff.mpr (by rw [rowV_len]; omega)
    rw [h1, h2]
    by_cases e : j = k
    · rw [if_pos e, if_neg (by omega)]
    · rw [if_neg e]
theorem rowV_congr {n : Nat} {f f' : Nat → Bool} (h : ∀ j, j < n → f j = f' j) : rowV n f = rowV n f' := by
  unfold rowV
  refine List.map_congr_left fun j hj => ?_
  rw [h j (List.mem_range.mp hj)]
structure Mat (H : Hp) (m : Addr) (rows : List Addr) (n : Nat) (T : Tm) : Prop where
  top : H m = some (.lst (rows.map V.ref))
  len : rows.length = n
  nd : rows.Nodup
  at_ : ∀ i a, rows[i]? = some a → H a = some (.lst (rowV n (T i)))
theorem Mat.same {H H' : Hp} {m : Addr} {rows : List Addr} {n : Nat} {T : Tm} (x : Mat H m rows n T) (k : Same H H') : Mat H' m rows n T := ⟨k _ _ x.top, x.len, x.nd, fun i a h => k _ _ (x.at_ i a h)⟩
theorem Mat.congr {H : Hp} {m : Addr} {rows : List Addr} {n : Nat} {T T' : Tm} (x : Mat H m rows n T) (h : ∀ i j, i < n → j < n → T i j = T' i j) : Mat H m rows n T' := by
  refine ⟨x.top, x.len, x.nd, fun i a e => ?_⟩
  have hi : i < n := by rw [← x.len]; exact (List.getElem?_eq_some_iff.mp e).1
  rw [x.at_ i a e, rowV_congr fun j hj => h i j hi hj]
theorem Mat.row {H : Hp} {m : Addr} {rows : List Addr} {n : Nat} {T : Tm} (x : Mat H m rows n T) {i : Nat} (h : i < n) : ∃ a, rows[i]? = some a ∧ H a = some (.lst (rowV n (T i))) := by
  have hi : i < rows.length := by rw [x.len]; exact h
  exact ⟨rows[i], by simp [hi], x.at_ i _ (by simp [hi])⟩
theorem Mat.notin {H : Hp} {m : Addr} {rows : List Addr} {n : Nat} {T : Tm} (x : Mat H m rows n T) : m ∉ rows := fun h => by
  obtain ⟨i, hi, e⟩ := List.mem_iff_getElem.mp h
  have h1 := x.at_ i m (by rw [← e]; simp [hi])
  rw [x.top] at h1
  have h2 : rows.map V.ref = rowV n (T i) := by
    injection h1 with h1
    injection h1
  have h3 := congrArg (fun l => l[i]?) h2
  have h4 : (rows.map V.ref)[i]? = some (.ref rows[i]) := by rw [List.getElem?_map]; simp [hi]
  have h5 : (rowV n (T i))[i]? = some (.bl (T i i)) := rowV_at (by rw [← x.len]; exact hi)
  have h6 := h4.symm.trans (h3.trans h5)
  cases h6
/-- all stands but these lists -/
def Out (rows : List Addr) (H H' : Hp) : Prop := ∀ a o, H a = some o → a ∉ rows → H' a = some o
theorem Out.refl (rows : List Addr) (H : Hp) : Out rows H H := fun _ _ h _ => h
theorem Out.trans {rows : List Addr} {H H1 H2 : Hp} (x : Out rows H H1) (y : Out rows H1 H2) : Out rows H H2 := fun a o h n => y a o (x a o h n) n
theorem Out.of {rows : List Addr} {H H' : Hp} (x : Same H H') : Out rows H H' := fun a o h _ => x a o h
/-- the table's rows are lists, so tuples stay -/
theorem Out.kt {m : Addr} {rows : List Addr} {n : Nat} {T : Tm} {H H' : Hp} (x : Out rows H H') (M : Mat H m rows n T) : KeepT H H' := fun a xs h => x a _ h fun hm => by
  obtain ⟨i, hi, e⟩ := List.mem_iff_getElem.mp hm
  have h1 := M.at_ i a (by rw [← e]; simp [hi])
  rw [h] at h1
  cases h1
theorem Out.same {rows : List Addr} {H0 H H' : Hp} (s : Same H0 H) (hn : ∀ a ∈ rows, H0 a = none) (x : Out rows H H') : Same H0 H' := fun a o h => x a o (s a o h) fun hm => by
  rw [hn a hm] at h
  cases h
def setT (T : Tm) (x y : Nat) (b : Bool) : Tm := fun i j => if i = x ∧ j = y then b else T i j
theorem Mat.set {H : Hp} {m a : Addr} {rows : List Addr} {n : Nat} {T : Tm} {x y : Nat} {b : Bool} (M : Mat H m rows n T) (ha : rows[x]? = some a) : Mat (upd H a (.lst ((rowV n (T x)).set y (.bl b)))) m rows n (setT T x y b) ∧ Out rows H (upd H a (.lst ((rowV n (T x)).set y (.bl b)))) := by
  have hm : a ∈ rows := List.mem_of_getElem? ha
  refine ⟨⟨?_, M.len, M.nd, fun i a' e => ?_⟩, fun u o h hu => ?_⟩
  · rw [upd_ne (fun e => M.notin (by rw [e]; exact hm))]
    exact M.top
  · by_cases h : a' = a
    · subst h
      have hi := (List.getElem?_eq_some_iff.mp e).1
      have e2 : i = x := (List.getElem?_inj hi M.nd).mp (e.trans ha.symm)
      subst e2
      rw [upd_same, rowV_set]
      congr 2
      refine rowV_congr fun j _ => ?_
      unfold setT
      by_cases hj : j = y
      · rw [if_pos hj, if_pos ⟨rfl, hj⟩]
      · rw [if_neg hj, if_neg (fun h => hj h.2)]
    · rw [upd_ne h, M.at_ i a' e]
      congr 2
      refine rowV_congr fun j _ => ?_
      unfold setT
      rw [if_neg]
      rintro ⟨rfl, _⟩
      exact h (Option.some.inj (e.symm.trans ha))
  · rw [upd_ne (fun e => hu (by rw [e]; exact hm))]
    exact h
theorem ixN_of {n j : Nat} (h : j < n) : ixN n (j : Int) = some j := by
  unfold ixN
  rw [if_pos (by omega), if_pos (by omega)]
  rfl
section
variable {K : PySem.W.Frag} {H : Hp} {m : Addr} {rows : List Addr} {n : Nat} {T : Tm} {σ : L2.St} {Q : VK}
/-- m[x][y], all three by names -/
theorem rdM {i j k x y : Nat} (M : Mat H m rows n T) (hm : σ[i]? = some (some (.ref m))) (hx : σ[j]? = some (some (.int (x : Int)))) (hy : σ[k]? = some (some (.int (y : Int)))) (lx : x < n) (ly : y < n) (q : Q (.bl (T x y)) H) :
    tOp (rIxL K) (tOp (rIxL K) (tVar i) (tVar j)) (tVar k) σ H Q := by
  obtain ⟨a, ha, hr⟩ := M.row lx
  refine ⟨_, hm, _, hx, _, _, _, .ref a, rfl, rfl, SqL.of M.top, atI_nat (j := x) ?_, _, hy, _, _, _, _, rfl, rfl, SqL.of hr, atI_nat (j := y) (rowV_at ly), q⟩
  rw [List.getElem?_map, ha]
  rfl
/-- a truth value as a test -/
theorem ttB {te : TE} {Q : Bool → Hp → Prop} {b : Bool} (h : ∀ Q' : VK, Q' (.bl b) H → te σ H Q') (q : Q b H) : tB te σ H Q := h _ ⟨_, rfl, q⟩
/-- m[x][y] = b -/
theorem wrM {i j k x y : Nat} {b : Bool} {Q : L2.St → Hp → Prop} (M : Mat H m rows n T) (hm : σ[i]? = some (some (.ref m))) (hx : σ[j]? = some (some (.int (x : Int)))) (hy : σ[k]? = some (some (.int (y : Int)))) (lx : x < n) (ly : y < n)
    (q : ∀ H', Mat H' m rows n (setT T x y b) → Out rows H H' → (∀ a, H a = none → H' a = none) → Q σ H') : gSub (tOp (rIxL K) (tVar i) (tVar j)) (tVar k) rSetL (.bl b) σ H Q := by
  obtain ⟨a, ha, hr⟩ := M.row lx
  obtain ⟨M2, o2⟩ := M.set (y := y) (b := b) ha
  refine ⟨_, hm, _, hx, _, _, _, .ref a, rfl, rfl, SqL.of M.top, atI_nat (j := x) ?_, _, hy, a, _, _, y, rfl, rfl, hr, ?_, q _ M2 o2 fun u hu => ?_⟩
  · rw [List.getElem?_map, ha]
    rfl
  · rw [rowV_len]
    exact ixN_of ly
  · rw [upd_ne (fun e => by rw [e, hr] at hu; cases hu)]
    exact hu
end
end Ns

/-! Own layer H: the end, where a callee's errors are told by a context of the world's. -/
namespace Ns
open PySem PySem.Spec PyProof.Rows L2
section
variable {l : PySem.W.OpenLaw} {n k : Nat} {q : Program} {loose : List Str} {d : DefRec} {x : Str}
variable {XP : (Str → Option Value) → Heap → Prop}
variable {YP : World → Heap → Prop}
/-- the law's object keeps the law at a heap that says YP -/
def EndAt (l : PySem.W.OpenLaw) (w : World) (mg : Str → Option Value) (fa : Addr) (n k : Nat) (x : Str) (h : Heap) : Prop :=
  ∃ (K : PySem.W.Frag) (fd : FuncData) (sp : Sp), K.In h ∧
    (∀ (s : Shared) (u : Value), BindsTo s fd ⟨[u], []⟩ [(x, u)]) ∧
    (∀ (H : Hp) (a : Addr) (is : List Int), is.length ≤ n → SqL K H a (is.map V.int) →
      sp [.ref a] H (fun v _ => v = .bl true) fun _ _ _ => False) ∧
    ∀ base : Heap, K.In base → base.Ns mainGlobals mg → FnOk l.prog w K mg base (L2.CX l.prog w) k fa fd [x] sp
theorem end_walk (hn : l.most = some n) (small : n ≤ sizeLine) (plain : d.params.defaults = [])
    (room : Room k callerA)
    (F : ∀ w mg fa h, YP w h → h.Ns mainGlobals mg → mg d.name = some (.ref fa) → EndAt l w mg fa n k x h) :
    PySem.W.WalkO q loose XP YP l.row.toRowW d [] (fun f vs => PySem.call f vs) := by
  refine Att.attach_call hn plain ?_
  intro w s₀ s₁ mg mb fa o pm cd doc a vs is G Y ho hd hcd hmg hobj hints hlen hg
  have z := F w mg fa _ Y G.T.g hmg
  obtain ⟨K, fd, sp, KX, hb, hsp, hF⟩ := z
  have le := Nat.le_trans hlen small
  have nothing : ∀ (H : Hp) (e : Value) (s' : Shared), L2.CX l.prog w [] H s₁ (fun _ _ _ => False) e s' → False := by
    intro H e s' c
    obtain ⟨_, _, _, _, _, _, _, _, _, _, _, _, no⟩ := c
    exact no
  refine law_call KX G.T.g G.T.b G.T.builtins G.T.nolimit hg hobj hints le room hF hb ?_ nothing
  intro H _ hS
  exact hsp H a is hlen hS
end
end Ns

/-! Own layer V: any data as values: their types, what a net is. -/
namespace Ns
open PySem PySem.Spec PyProof.Rows L2
def tyName : PyData → String
  | .none => "NoneType"
  | .bool _ => "bool"
  | .int _ => "int"
  | .str _ => "str"
  | .list _ => "list"
  | .tuple _ => "tuple"
  | .dict _ => "dict"
theorem tyX_of {K : PySem.W.Frag} {H : Hp} {v : V} {d : PyData} (h : Dp K H v d) : TyX K H v (.type (tyName d)) := by
  cases h with
  | non => exact .base .non
  | bl b => exact .base (.bl b)
  | int i => exact .base (.int i)
  | str x => exact .base (.str x)
  | lst h _ =>
    rcases h with (h | ⟨o, h⟩) | ⟨o, its, n, h, c, _⟩
    · exact .base (.lst h)
    · exact .base (.frz h)
    · exact .kList h c
  | tup h _ =>
    rcases h with (h | ⟨o, h⟩) | ⟨o, its, n, h, c, _⟩
    · exact .base (.tup h)
    · exact .fTuple h
    · exact .kTuple h c
/-- isinstance of data by the name of its type -/
def isiB (d : PyData) (T : String) : Bool := (kitB (tyName d) T).getD false
theorem kit_isi (d : PyData) (T : String) (h : T = "int" ∨ T = "bool" ∨ T = "str" ∨ T = "tuple" ∨ T = "list" ∨ T = "dict") : kitB (tyName d) T = some (isiB d T) := by
  have e : (kitB (tyName d) T).isSome = true := by
    rcases h with rfl | rfl | rfl | rfl | rfl | rfl <;> cases d <;> simp only [tyName] <;> decide +kernel
  obtain ⟨b, hb⟩ := Option.isSome_iff_exists.mp e
  unfold isiB
  rw [hb]
  rfl
theorem isiD {K : PySem.W.Frag} {H : Hp} {v : V} {d : PyData} {T : String} {Q : VK} (h : Dp K H v d) (hT : T = "int" ∨ T = "bool" ∨ T = "str" ∨ T = "tuple" ∨ T = "list" ∨ T = "dict") (q : Q (.bl (isiB d T)) H) : rIsi K [v, .ty T] H Q :=
  ⟨v, .ty T, .type (tyName d), .type T, _, rfl, .ty T, tyX_of h, kit_ty (kit_isi d T hT), q⟩
theorem isi_tuple (d : PyData) : isiB d "tuple" = (match d with | .tuple _ => true | _ => false) := by
  cases d <;> simp only [isiB, tyName] <;> decide +kernel
theorem isi_list (d : PyData) : isiB d "list" = (match d with | .list _ => true | _ => false) := by
  cases d <;> simp only [isiB, tyName] <;> decide +kernel
theorem isi_int (d : PyData) : isiB d "int" = (match d with | .int _ => true | .bool _ => true | _ => false) := by
  cases d <;> simp only [isiB, tyName] <;> decide +kernel
theorem isi_bool (d : PyData) : isiB d "bool" = (match d with | .bool _ => true | _ => false) := by
  cases d <;> simp only [isiB, tyName] <;> decide +kernel
theorem isi_str (d : PyData) : isiB d "str" = (match d with | .str _ => true | _ => false) := by
  cases d <;> simp only [isiB, tyName] <;> decide +kernel
theorem DpAll.len {K : PySem.W.Frag} {H : Hp} : ∀ {vs : List V} {ds : List PyData}, DpAll K H vs ds → vs.length = ds.length
  | _, _, .nil => rfl
  | _, _, .cons _ t => congrArg Nat.succ (DpAll.len t)
theorem dpAt {K : PySem.W.Frag} {H : Hp} : ∀ {vs : List V} {ds : List PyData} {i : Nat} {v : V}, DpAll K H vs ds → vs[i]? = some v → ∃ d, ds[i]? = some d ∧ Dp K H v d
  | _, _, _, _, .nil, h => by simp at h
  | _, _, 0, _, .cons h _, e => by simp at e; subst e; exact ⟨_, rfl, h⟩
  | _, _, i + 1, _, .cons _ t, e => by
    obtain ⟨d, h1, h2⟩ := dpAt (i := i) t (by simpa using e)
    exact ⟨d, by simpa using h1, h2⟩
theorem dpAt2 {K : PySem.W.Frag} {H : Hp} : ∀ {vs : List V} {ds : List PyData} {i : Nat} {d : PyData}, DpAll K H vs ds → ds[i]? = some d → ∃ v, vs[i]? = some v ∧ Dp K H v d
  | _, _, _, _, .nil, h => by simp at h
  | _, _, 0, _, .cons h _, e => by simp at e; subst e; exact ⟨_, rfl, h⟩
  | _, _, i + 1, _, .cons _ t, e => by
    obtain ⟨v, h1, h2⟩ := dpAt2 (i := i) t (by simpa using e)
    exact ⟨v, by simpa using h1, h2⟩
theorem sqT_same {K : PySem.W.Frag} {H H' : Hp} {a : Addr} {xs : List V} (k : Same H H') (h : SqT K H a xs) : SqT K H' a xs := by
  rcases h with (h | ⟨o, h⟩) | h
  · exact .inl (.inl (k _ _ h))
  · exact .inl (.inr ⟨o, k _ _ h⟩)
  · exact .inr h
mutual
theorem Dp.same {K : PySem.W.Frag} {H H' : Hp} (k : Same H H') : ∀ (d : PyData) (v : V), Dp K H v d → Dp K H' v d
  | .none, _, .non => .non
  | .bool b, _, .bl _ => .bl b
  | .int i, _, .int _ => .int i
  | .str x, _, .str _ => .str x
  | .list ds, _, .lst h t => .lst (Same.seq k h) (DpAll.same k ds _ t)
  | .tuple ds, _, .tup h t => .tup (sqT_same k h) (DpAll.same k ds _ t)
theorem DpAll.same {K : PySem.W.Frag} {H H' : Hp} (k : Same H H') : ∀ (ds : List PyData) (vs : List V), DpAll K H vs ds → DpAll K H' vs ds
  | [], _, .nil => .nil
  | d :: ds, _, .cons h t => .cons (Dp.same k d _ h) (DpAll.same k ds _ t)
end
/-! ### what is a number, a pair, a net -/
def isNumD : PyData → Bool
  | .int _ => true
  | _ => false
def isPairD : PyData → Bool
  | .tuple [.int _, .int _] => true
  | _ => false
def okFrom (n : Int) : Int × Int → List PyData → Bool
  | _, [] => true
  | b, .tuple [.int x, .int y] :: r => (decide (0 ≤ x ∧ x < y ∧ y < n) && HT.lexLt [b.1, b.2] [x, y]) && okFrom n (x, y) r
  | _, _ :: _ => false
def isNetD : PyData → Bool
  | .tuple [.int n, .tuple ps] => decide (0 ≤ n ∧ n ≤ 40) && okFrom n (-1, -1) ps
  | _ => false
end Ns

/-! Own layer B: the law's draws. -/
namespace Ns
open PySem PySem.Spec PyProof.Rows L2
local macro_rules | `(tactic| walk_at "look") => `(tactic| first | assumption | exact upd_same | (refine (upd_ne (by first | assumption | exact Ne.symm (by assumption))).trans ?_; walk_at "look"))
local macro_rules | `(tactic| walk_at "cond") => `(tactic| first | assumption | omega | (dsimp only; omega) | exact ⟨by omega, by omega⟩ | decide | exact ⟨by decide, by decide, by decide⟩ | exact .inr ⟨by decide, by decide⟩ | exact .inl ⟨by decide, by decide⟩ | exact .inr ⟨by omega, by omega⟩ | exact .inl ⟨by omega, by omega⟩)
local macro_rules | `(tactic| walk_at "rd1") => `(tactic| first
  | refine ⟨_, rfl, ?_⟩
  | refine ⟨_, _, rfl, rfl, ?_⟩
  | refine ⟨rfl, ?_⟩
  | refine ⟨_, _, rfl, rfl, (by walk_at "cond"), ?_⟩
  | refine ⟨_, _, _, _, rfl, rfl, SqL.of (by walk_at "look"), rfl, ?_⟩
  | refine ⟨_, _, _, _, rfl, rfl, SqT.of (by walk_at "look"), rfl, ?_⟩
  | refine ⟨_, _, _, _, rfl, rfl, (by walk_at "look"), rfl, ?_⟩
  | refine .inl ⟨_, rfl, ?_⟩
  | refine ⟨.inl ⟨rfl, _, SqL.of (by walk_at "look")⟩, ?_⟩
  | refine ⟨_, _, rfl, ⟨by omega, by omega, by omega, by omega⟩, ?_⟩
  | refine ⟨_, rfl, (by omega), (by omega), ?_⟩
  | refine And.intro (by walk_at "cond") ?_)
local macro_rules | `(tactic| walk_at "rd") => `(tactic| repeat (walk_at "rd1"))

def top (i : Nat) : Stmt := PySem.Challenge.pw_netstory_k34_nearest_by_going_through_al.main.body.getD i (.Pass ⟨0, 0, 0, 0⟩)
abbrev s_law_box : Stmt := top 24
abbrev N_law_box : List Str := ["script", "x"]
theorem sc_law_box : FnScope N_law_box ["script"] (defScope s_law_box) := ⟨rfl, rfl, rfl, by decide +kernel, rfl, by decide +kernel, by decide +kernel⟩
abbrev s_law_take : Stmt := top 25
abbrev N_law_take : List Str := ["box", "m", "at", "cell", "told"]
theorem sc_law_take : FnScope N_law_take ["box", "m"] (defScope s_law_take) := ⟨rfl, rfl, rfl, by decide +kernel, rfl, by decide +kernel, by decide +kernel⟩
abbrev s_law_pick : Stmt := top 26
abbrev N_law_pick : List Str := ["box", "menu"]
theorem sc_law_pick : FnScope N_law_pick ["box", "menu"] (defScope s_law_pick) := ⟨rfl, rfl, rfl, by decide +kernel, rfl, by decide +kernel, by decide +kernel⟩
/-! ### the box: two lists -/
def Box (H : Hp) (b l : Addr) : Prop := ∃ (c0 c1 c2 : Int) (ns : List Int), H b = some (.lst [.int c0, .int c1, .int c2, .ref l]) ∧ H l = some (.lst (ns.map V.int)) ∧ 0 ≤ c2
theorem Box.ne {H : Hp} {b l : Addr} (x : Box H b l) : l ≠ b := by
  obtain ⟨c0, c1, c2, ns, h1, h2, _⟩ := x
  intro e
  subst e
  rw [h1] at h2
  cases ns with
  | nil => simp at h2
  | cons n ns => cases ns with
    | nil => simp at h2
    | cons m ns => cases ns with
      | nil => simp at h2
      | cons m ns => cases ns with
        | nil => simp at h2
        | cons m ns => simp at h2
/-- all stands but the box at b, which is a box still -/
structure Kp (b l : Addr) (H H' : Hp) : Prop where
  same : ∀ a o, H a = some o → a ≠ b → H' a = some o
  box : Box H' b l
theorem Kp.refl {b l : Addr} {H : Hp} (x : Box H b l) : Kp b l H H := ⟨fun _ _ h _ => h, x⟩
theorem Kp.trans {b l : Addr} {H H1 H2 : Hp} (x : Kp b l H H1) (y : Kp b l H1 H2) : Kp b l H H2 := ⟨fun a o h n => y.same a o (x.same a o h n) n, y.box⟩
theorem Box.same {b l : Addr} {H H' : Hp} (x : Box H b l) (k : Same H H') : Box H' b l := by
  obtain ⟨c0, c1, c2, ns, h1, h2, h3⟩ := x
  exact ⟨c0, c1, c2, ns, k _ _ h1, k _ _ h2, h3⟩
theorem Kp.then {b l : Addr} {H H1 H2 : Hp} (x : Kp b l H H1) (y : Same H1 H2) : Kp b l H H2 := ⟨fun a o h n => y a o (x.same a o h n), x.box.same y⟩
theorem same_new0 {H : Hp} {p : Addr} {o : HO} (h : H p = none) : Same H (upd H p o) := fun b x e => by
  rw [upd_ne (ne_of_none e h)]
  exact e
theorem Kp.new {b l p : Addr} {o : HO} {H H1 : Hp} (x : Kp b l H H1) (h : H1 p = none) : Kp b l H (upd H1 p o) := x.then (same_new0 h)
/-- a store into an object that is new since H -/
theorem Kp.put {b l p : Addr} {o : HO} {H H1 : Hp} (x0 : Box H b l) (x : Kp b l H H1) (h : H p = none) : Kp b l H (upd H1 p o) := by
  obtain ⟨c0, c1, c2, ns, h1, h2, h3⟩ := x0
  refine ⟨fun a u e n => ?_, ?_⟩
  · rw [upd_ne (ne_of_none e h)]
    exact x.same a u e n
  · obtain ⟨d0, d1, d2, ms, g1, g2, g3⟩ := x.box
    exact ⟨d0, d1, d2, ms, by rw [upd_ne (ne_of_none h1 h)]; exact g1, by rw [upd_ne (ne_of_none h2 h)]; exact g2, g3⟩
theorem Kp.free {b l p : Addr} {H H' : Hp} (x0 : Box H b l) (x : Kp b l H H') (h : H' p = none) : H p = none := by
  cases q : H p with
  | none => rfl
  | some o =>
    by_cases e : p = b
    · obtain ⟨_, _, _, _, g, _⟩ := x.box
      rw [e, g] at h
      cases h
    · rw [x.same p o q e] at h
      cases h
theorem Kp.tup {b l p : Addr} {xs : List V} {H H' : Hp} (x0 : Box H b l) (x : Kp b l H H') (h : H p = some (.tup xs)) : H' p = some (.tup xs) := by
  obtain ⟨c0, c1, c2, ns, h1, h2, h3⟩ := x0
  exact x.same _ _ h (ne_of h h1 (by intro z; cases z))
theorem Kp.sx {b l d : Addr} {H H1 H2 : Hp} (x0 : Box H b l) (x : Kp b l H H1) (y : SameX d H1 H2) (h : H d = none) : Kp b l H H2 := by
  obtain ⟨c0, c1, c2, ns, h1, h2, h3⟩ := x0
  obtain ⟨d0, d1, d2, ms, g1, g2, g3⟩ := x.box
  exact ⟨fun a o e n => y a o (x.same a o e n) (ne_of_none e h), d0, d1, d2, ms, y _ _ g1 (ne_of_none h1 h), y _ _ g2 (ne_of_none h2 h), g3⟩
theorem Kp.kt {b l : Addr} {H H' : Hp} (x0 : Box H b l) (x : Kp b l H H') : KeepT H H' := fun _ _ h => x.tup x0 h
/-! ### promises -/
def sp_take : Sp := fun vs H Q _ => ∃ (b l : Addr) (m : Int), vs = [.ref b, .int m] ∧ Box H b l ∧ 0 < m ∧ m < 1073741824 ∧ ∀ (r : Int) (H' : Hp), 0 ≤ r → r < m → Kp b l H H' → Q (.int r) H'
section
variable {P : Program} {w : World} {K : PySem.W.Frag} {mg : Str → Option Value} {base : Heap}
theorem cal_take (A : At K mg "_law_take" s_law_take) (B : Bi mg) : Cal P w K mg base 1 "_law_take" sp_take := by
  have nd := sc_law_take.nd
  refine A.cal sc_law_take (fun _ _ _ _ _ _ us hl => match us, hl with | [_, _], _ => rfl) ?_ fun f cdv A' outer s H vs Q E hr h => ⟨_, (C8.pss_cut (ps_if (pt_cmpR op_eq (pe_ix (ix_listK (K := K) rfl) (pv 0) pe_int (fun _ _ => rfl)) pe_int (nomark _)) (pss_cons (ps_set (i := 2) nd rfl (.inl rfl) (pe_ix (ix_listK (K := K) rfl) (pv 0) pe_int (fun _ _ => rfl)))
  (pss_cons (ps_set (i := 3) nd rfl (.inl rfl) pe_int)
  (C8.pss_cut (ps_if (pt_cmpR op_lt (pv 2) (pe_callB (call_lenK (K := K) rfl) (by rfl) B.len (by decide +kernel) (pa_cons (pe_ix (ix_listK (K := K) rfl) (pv 0) pe_int (fun _ _ => rfl)) pa_nil)) (nomark _)) (pss_cons (ps_set (i := 3) nd rfl (.inl rfl) (pe_ix (ix_listK (K := K) rfl) (pe_ix (ix_listK (K := K) rfl) (pv 0) pe_int (fun _ _ => rfl)) (pv 2) (fun _ _ => rfl)))
  (pss_one (ps_asg (pe_ifExp (pt_cmpR op_ge (pv 3) (pe_op op_pow pe_int pe_int) (nomark _)) pe_int (pe_un un_neg pe_int)) (pg_sub (pv 0) pe_int set_list)))) pss_nil)
  (pss_cons (ps_asg (pe_op op_add (pv 2) pe_int) (pg_sub (pv 0) pe_int set_list))
  (pss_cons (ps_asg (pv 3) (pg_sub (pv 0) pe_int set_list))
  (pss_one (ps_if (pt_cmpR op_eq (pe_ix (ix_listK (K := K) rfl) (pv 0) pe_int (fun _ _ => rfl)) pe_int (nomark _)) (pss_one (ps_ret pe_int)) pss_nil))))))) pss_nil)
  (pss_cons (ps_if (pt_cmpR op_gt (pe_ix (ix_listK (K := K) rfl) (pv 0) pe_int (fun _ _ => rfl)) pe_int (nomark _)) (pss_cons (ps_set (i := 4) nd rfl (.inl rfl) (pe_op op_mod (pe_callTy call_int1 (by rfl) B.int_ (by decide +kernel) (pa_cons (pe_ix (ix_listK (K := K) rfl) (pv 0) pe_int (fun _ _ => rfl)) pa_nil)) (pv 1)))
  (pss_cons (ps_asg (pe_op op_fdiv (pe_ix (ix_listK (K := K) rfl) (pv 0) pe_int (fun _ _ => rfl)) (pv 1)) (pg_sub (pv 0) pe_int set_list))
  (pss_cons (ps_asg (pe_ifExp (pt_cmpR op_gt (pe_ix (ix_listK (K := K) rfl) (pv 0) pe_int (fun _ _ => rfl)) pe_int (nomark _)) (pe_op op_sub (pe_ix (ix_listK (K := K) rfl) (pv 0) pe_int (fun _ _ => rfl)) pe_int) pe_int) (pg_sub (pv 0) pe_int set_list))
  (pss_one (ps_ret (pv 4)))))) pss_nil)
  (pss_cons (ps_asg (pe_op op_add (pe_ix (ix_listK (K := K) rfl) (pv 0) pe_int (fun _ _ => rfl)) pe_int) (pg_sub (pv 0) pe_int set_list))
  (pss_cons (ps_asg (pe_op op_mod (pe_callTy call_int1 (by rfl) B.int_ (by decide +kernel) (pa_cons (pe_op op_add (pe_op op_mul (pe_ix (ix_listK (K := K) rfl) (pv 0) pe_int (fun _ _ => rfl)) pe_int) (pe_op op_mul pe_int (pe_op op_add (pe_ix (ix_listK (K := K) rfl) (pv 0) pe_int (fun _ _ => rfl)) pe_int))) pa_nil)) pe_int) (pg_sub (pv 0) pe_int set_list))
  (pss_one (ps_ret (pe_op op_mod (pe_op op_mod (pe_callTy call_int1 (by rfl) B.int_ (by decide +kernel) (pa_cons (pe_op op_add (pe_op op_fdiv (pe_ix (ix_listK (K := K) rfl) (pv 0) pe_int (fun _ _ => rfl)) pe_int) (pe_ix (ix_listK (K := K) rfl) (pv 0) pe_int (fun _ _ => rfl))) pa_nil)) pe_int) (pv 1)))))))), ?_⟩
  · rintro vs H Q E ⟨b, l, m, rfl, _⟩
    rfl
  · obtain ⟨b, l, m, rfl, ⟨c0, c1, c2, ns, hb, hl, h0⟩, m0, m1, q⟩ := h
    have hne : l ≠ b := Box.ne ⟨c0, c1, c2, ns, hb, hl, h0⟩
    have keep : ∀ {H1 : Hp} {o1 : HO}, (∀ a o, H a = some o → a ≠ b → H1 a = some o) → ∀ a o, H a = some o → a ≠ b → (upd H1 b o1) a = some o := fun h a o e n => by
      rw [upd_ne n]
      exact h a o e n
    have k0 : ∀ a o, H a = some o → a ≠ b → H a = some o := fun a o h _ => h
    have hat : ∀ c2 : Int, 0 ≤ c2 → c2 < ((ns.map V.int).length : Nat) → ∃ z, atI (ns.map V.int) c2 = some (.int z) := fun c2 h1 h2 => by
      have hlt : c2.toNat < ns.length := by simp at h2; omega
      refine ⟨ns[c2.toNat], ?_⟩
      have := atI_nat (xs := ns.map V.int) (j := c2.toNat) (v := .int ns[c2.toNat]) (by rw [List.getElem?_map]; simp [hlt])
      rwa [Int.toNat_of_nonneg h1] at this
    -- if box[1] == 0
    refine ⟨fun σ' H' => ∃ (v2 v3 : Option V) (d0 d1 d2 : Int), σ' = [some (.ref b), some (.int m), v2, v3, none] ∧ H' b = some (.lst [.int d0, .int d1, .int d2, .ref l]) ∧ H' l = some (.lst (ns.map V.int)) ∧ 0 ≤ d2 ∧ (∀ a o, H a = some o → a ≠ b → H' a = some o), ?_, ?_⟩
    · walk_at "rd"
      refine ifI (fun c => ?_) (fun c => ?_)
      · walk_at "rd"
        refine ⟨fun σ' H' => ∃ (d1 c3 : Int), σ' = [some (.ref b), some (.int m), some (.int c2), some (.int c3), none] ∧ H' b = some (.lst [.int c0, .int d1, .int c2, .ref l]) ∧ H' l = some (.lst (ns.map V.int)) ∧ (∀ a o, H a = some o → a ≠ b → H' a = some o), ?_, ?_⟩
        · walk_at "rd"
          refine ⟨_, _, rfl, Or.inl ⟨_, SqL.of hl, rfl⟩, ?_⟩
          walk_at "rd"
          refine ifD (fun c2l => ?_) (fun c2l => ?_)
          · obtain ⟨z, hz⟩ := hat c2 h0 c2l
            walk_at "rd"
            refine ⟨_, _, _, _, rfl, rfl, SqL.of hl, hz, ?_⟩
            walk_at "rd"
            refine ifD (fun cz => ?_) (fun cz => ?_)
            · walk_at "rd"
              exact ⟨_, _, rfl, upd_same, by walk_at "look", keep k0⟩
            · walk_at "rd"
              exact ⟨_, _, rfl, upd_same, by walk_at "look", keep k0⟩
          · exact ⟨_, _, rfl, hb, hl, k0⟩
        · rintro σ' H1 ⟨d1, c3, rfl, hb1, hl1, k1⟩
          walk_at "rd"
          refine ifI (fun c => ?_) (fun c => ?_)
          · refine q _ _ (Int.le_refl _) m0 ⟨keep (keep k1), ?_⟩
            exact ⟨_, _, _, ns, upd_same, by walk_at "look", by omega⟩
          · exact ⟨_, _, _, _, _, rfl, upd_same, by walk_at "look", by omega, keep (keep k1)⟩
      · exact ⟨none, none, c0, c1, c2, rfl, hb, hl, h0, fun a o h _ => h⟩
    · rintro σ' H1 ⟨v2, v3, d0, d1, d2, rfl, hb1, hl1, p2, k1⟩
      walk_at "rd"
      refine ifD (fun c => ?_) (fun c => ?_)
      · walk_at "rd"
        refine ifD (fun c => ?_) (fun c => ?_)
        · walk_at "rd"
          exact q _ _ (Int.emod_nonneg _ (by omega)) (Int.emod_lt_of_pos _ m0) ⟨keep (keep k1), _, _, _, ns, upd_same, by walk_at "look", p2⟩
        · walk_at "rd"
          exact q _ _ (Int.emod_nonneg _ (by omega)) (Int.emod_lt_of_pos _ m0) ⟨keep (keep k1), _, _, _, ns, upd_same, by walk_at "look", p2⟩
      · walk_at "rd"
        exact q _ _ (Int.emod_nonneg _ (by omega)) (Int.emod_lt_of_pos _ m0) ⟨keep (keep k1), _, _, _, ns, upd_same, by walk_at "look", p2⟩
/-! ### the box is made -/
def sp_box (K : PySem.W.Frag) : Sp := fun vs H Q _ => ∃ (a : Addr) (ns : List Int), vs = [.ref a] ∧ SqL K H a (ns.map V.int) ∧ ns.length ≤ 63 ∧ ∀ (b l : Addr) (H' : Hp), Same H H' → Box H' b l → Q (.ref b) H'
theorem cal_box (A : At K mg "_law_box" s_law_box) (B : Bi mg) : Cal P w K mg base 1 "_law_box" (sp_box K) := by
  have nd := sc_law_box.nd
  refine A.cal sc_law_box (fun _ _ _ _ _ _ us hl => match us, hl with | [_], _ => rfl) ?_ fun f cdv A' outer s H vs Q E hr h => ⟨_, (pss_one (ps_ret (pe_lst (pa_cons pe_int (pa_cons pe_int (pa_cons pe_int (pa_cons (pe_lc (own := [("x", 1)]) rfl nd (pi_listK (K := K) rfl (pv 0)) (blkOk_by (own := [("x", 1)]) (N := N_law_box) (sc := defScope s_law_box) (by decide +kernel)) (fun _ _ _ _ _ => (pg_name (i := 1) nd rfl (.inl rfl) (.inr rfl))) (fun _ _ _ _ _ => pts_nil) (fun _ _ _ _ _ => (pe_callB call_abs (by rfl) B.abs (by decide +kernel) (pa_cons (pe_callTy call_int1 (by rfl) B.int_ (by decide +kernel) (pa_cons (pv 1) pa_nil)) pa_nil)))) pa_nil))))))), ?_⟩
  · rintro vs H Q E ⟨a, ns, rfl, _⟩
    rfl
  · obtain ⟨a, ns, rfl, hS, hn, q⟩ := h
    refine ⟨_, rfl, a, rfl, ⟨_, hS⟩, fun D hD => ?_⟩
    refine comp_list persNm (fun z : Int => some (if z < 0 then -z else z)) persNm hD hS (by rw [List.length_map]; exact sizeBig (by omega)) (pairedNm H ns) ?_ ?_
    · rintro z x H1 Yes No hz rfl sm yes no
      walk_at "rd"
      exact yes _ rfl _ _ (Same.refl _) rfl
    · intro H1 ys sm hy pr
      refine ⟨by show 4 ≤ sizeLine; decide, fun p hp => ?_⟩
      have e := pairedNm_eq pr
      subst e
      have hne : p ≠ D := fun e => by rw [e, hy] at hp; cases hp
      exact q p D _ (sNew sm hp) ⟨0, 0, 0, _, upd_same, by rw [upd_ne (Ne.symm hne)]; exact hy, Int.le_refl _⟩
/-! ### an item of a menu -/
def sp_pick (K : PySem.W.Frag) : Sp := fun vs H Q _ => ∃ (b l m : Addr) (xs : List V), vs = [.ref b, .ref m] ∧ Box H b l ∧ ((H m = some (.lst xs) ∧ m ≠ b) ∨ H m = some (.tup xs)) ∧ xs ≠ [] ∧ xs.length < 1073741824 ∧
  ∀ (v : V) (H' : Hp), v ∈ xs → Kp b l H H' → Q v H'
theorem cal_pick (A : At K mg "_law_pick" s_law_pick) (B : Bi mg) (c_law_take : Cal P w K mg base 1 "_law_take" sp_take) : Cal P w K mg base 2 "_law_pick" (sp_pick K) := by
  have nd := sc_law_pick.nd
  refine A.cal sc_law_pick (fun _ _ _ _ _ _ us hl => match us, hl with | [_, _], _ => rfl) ?_ fun f cdv A' outer s H vs Q E hr h => ⟨_, (pss_one (ps_ret (pe_ix (ix_seqK (K := K) rfl) (pv 1) (pe_cal c_law_take hr (by decide) (by rfl) passE (pa_cons (pv 0) (pa_cons (pe_callB (call_lenK (K := K) rfl) (by rfl) B.len (by decide +kernel) (pa_cons (pv 1) pa_nil)) pa_nil))) (fun _ _ => rfl)))), ?_⟩
  · rintro vs H Q E ⟨b, l, m, xs, rfl, _⟩
    rfl
  · obtain ⟨b, l, m, xs, rfl, hb, hm, hx, hn, q⟩ := h
    have hpos : 0 < xs.length := List.length_pos_iff.mpr hx
    have hz : (xs.length : Int) < 1073741824 := by omega
    walk_at "rd"
    refine ⟨_, _, rfl, hm.elim (fun h => .inl ⟨_, SqL.of h.1, rfl⟩) (fun h => .inr ⟨_, SqT.of h, rfl⟩), ?_⟩
    refine ⟨b, l, _, rfl, hb, by omega, hz, fun r H' r0 r1 k => ?_⟩
    have hat : xs[r.toNat]? = some xs[r.toNat] := by simp [show r.toNat < xs.length by omega]
    have hat2 : atI xs r = some xs[r.toNat] := by
      have := atI_nat hat
      rwa [Int.toNat_of_nonneg r0] at this
    have q' := q _ H' (List.mem_of_getElem? hat) k
    rcases hm with ⟨h, hne⟩ | h
    · exact .inl ⟨_, _, _, _, rfl, rfl, SqL.of (k.same _ _ h hne), hat2, q'⟩
    · exact .inr (.inl ⟨_, _, _, _, rfl, rfl, SqT.of (k.tup hb h), hat2, q'⟩)
end
end Ns

/-! Own layer C: nets that the law draws. -/
namespace Ns
open PySem PySem.Spec PyProof.Rows L2
local macro_rules | `(tactic| walk_at "look") => `(tactic| first | assumption | exact upd_same | (refine (upd_ne (by first | assumption | exact Ne.symm (by assumption))).trans ?_; walk_at "look"))
local macro_rules | `(tactic| walk_at "cond") => `(tactic| first | assumption | omega | (dsimp only; omega) | exact ⟨by omega, by omega⟩ | decide | exact ⟨by decide, by decide, by decide⟩ | exact .inr ⟨by decide, by decide⟩ | exact .inl ⟨by decide, by decide⟩ | exact .inr ⟨by omega, by omega⟩ | exact .inl ⟨by omega, by omega⟩)
local macro_rules | `(tactic| walk_at "rd1") => `(tactic| first
  | refine ⟨_, rfl, ?_⟩
  | refine ⟨_, _, rfl, rfl, ?_⟩
  | refine ⟨rfl, ?_⟩
  | refine ⟨_, _, rfl, rfl, (by walk_at "cond"), ?_⟩
  | refine ⟨_, _, _, _, rfl, rfl, SqL.of (by walk_at "look"), rfl, ?_⟩
  | refine ⟨_, _, _, _, rfl, rfl, SqT.of (by walk_at "look"), rfl, ?_⟩
  | refine ⟨_, _, _, _, rfl, rfl, (by walk_at "look"), rfl, ?_⟩
  | refine .inl ⟨_, rfl, ?_⟩
  | refine ⟨.inl ⟨rfl, _, SqL.of (by walk_at "look")⟩, ?_⟩
  | refine ⟨_, _, rfl, ⟨by omega, by omega, by omega, by omega⟩, ?_⟩
  | refine ⟨_, rfl, (by omega), (by omega), ?_⟩
  | refine And.intro (by walk_at "cond") ?_)
local macro_rules | `(tactic| walk_at "rd") => `(tactic| repeat (walk_at "rd1"))

abbrev s_law_pairs : Stmt := top 27
abbrev N_law_pairs : List Str := ["n", "pairs", "x", "y"]
theorem sc_law_pairs : FnScope N_law_pairs ["n"] (defScope s_law_pairs) := ⟨rfl, rfl, rfl, by decide +kernel, rfl, by decide +kernel, by decide +kernel⟩
abbrev s_law_made : Stmt := top 28
abbrev N_law_made : List Str := ["n", "there", "x", "y"]
theorem sc_law_made : FnScope N_law_made ["n", "there"] (defScope s_law_made) := ⟨rfl, rfl, rfl, by decide +kernel, rfl, by decide +kernel, by decide +kernel⟩
section
variable {P : Program} {w : World} {K : PySem.W.Frag} {mg : Str → Option Value} {base : Heap}
def sp_pairs : Sp := fun vs H Q _ => ∃ n : Nat, vs = [pI n] ∧ n ≤ 1000 ∧ ∀ (p : Addr) (us : List V) (H' : Hp), Same H H' → H p = none → H' p = some (.lst us) → Paired (Pr H') us (allPairs n) → Q (.ref p) H'
theorem rowP_eq {n x : Nat} {m : Nat} (h : m = n - (x + 1)) : (List.range m).filterMap (fun k => some (x, x + 1 + k)) = rowP n x := by
  subst h
  unfold rowP
  rw [← List.filterMap_eq_map]
  rfl
theorem cal_pairs (A : At K mg "_law_pairs" s_law_pairs) (B : Bi mg) : Cal P w K mg base 1 "_law_pairs" sp_pairs := by
  have nd := sc_law_pairs.nd
  refine A.cal sc_law_pairs (fun _ _ _ _ _ _ us hl => match us, hl with | [_], _ => rfl) ?_ fun f cdv A' outer s H vs Q E hr h => ⟨_, (pss_cons (ps_set (i := 1) nd rfl (.inl rfl) (pe_lst pa_nil))
  (pss_cons (ps_for passOwn rfl (pi_range1 (by rfl) B.range (pa_cons (pv 0) pa_nil)) (pg_name (i := 2) nd rfl (.inr rfl)) (pss_one (ps_expr (pe_bm PySem.F.plainAttrs_list PySem.F.slot_list_extend PySem.F.type_list_extend mt_extend (pv 1) (pa_cons (pe_lc (own := [("y", 3)]) rfl nd (pi_range2 (by rfl) B.range (pa_cons (pe_op op_add (pv 2) pe_int) (pa_cons (pv 0) pa_nil))) (blkOk_by (own := [("y", 3)]) (N := N_law_pairs) (sc := defScope s_law_pairs) (by decide +kernel)) (fun _ _ _ _ _ => (pg_name (i := 3) nd rfl (.inl rfl) (.inr rfl))) (fun _ _ _ _ _ => pts_nil) (fun _ _ _ _ _ => (pe_tup (pa_cons (pv 2) (pa_cons (pv 3) pa_nil))))) pa_nil)))))
  (pss_one (ps_ret (pv 1))))), ?_⟩
  · rintro vs H Q E ⟨n, rfl, _⟩
    rfl
  · obtain ⟨n, rfl, hn, q⟩ := h
    refine ⟨Nat.zero_le _, fun p hp => ?_⟩
    refine ⟨_, rfl, _, rfl, by omega, by omega, for_range (lo := 0) (n := n) (fun i σ H1 => ∃ v2, σ = [some (pI n), some (.ref p), v2, none] ∧ Same H H1 ∧ ∃ us, H1 p = some (.lst us) ∧ Paired (Pr H1) us ((List.range i).flatMap (rowP n))) ⟨none, rfl, same_laid hp, [], upd_same, by simpa using Paired.nil⟩ ?_ ?_⟩
    · rintro i σ H1 hi ⟨v2, rfl, sm, us, hu, pr⟩
      walk_at "rd"
      intro D hD
      have hpD : p ≠ D := ne_of_none hu hD
      have len1 : us.length ≤ 1000 * 1000 := by
        have h1 := flat_len (rowP n) n (rowP_len n) (List.range i)
        rw [List.length_range] at h1
        have h2 := pr.length
        have h3 : i * n ≤ 1000 * 1000 := Nat.mul_le_mul (by omega) hn
        omega
      refine comp_range (n := ((n : Int) - (0 + (i : Int) + 1)).toNat) (sizeBig (by omega)) (fun k => some (i, i + 1 + k)) persPr hD ?_ ?_
      · intro k H2 Yes No hk sm2 yes no
        walk_at "rd"
        refine ⟨by show 2 ≤ sizeLine; decide, fun t ht => ?_⟩
        exact yes _ rfl _ _ (same_laid ht) (prMk upd_same (by simp) (by simp <;> omega))
      · intro H2 ys sm2 hy pr2
        rw [rowP_eq (n := n) (by omega)] at pr2
        have len2 := rowP_len n i
        have len3 := pr2.length
        refine ⟨_, _, _, _, rfl, rfl, sm2 _ _ hu, hy, Nat.le_of_lt (sizeBig (by omega)), ?_⟩
        have kt : KeepT H2 (upd H2 p (.lst (us ++ ys))) := KeepT.lst (sm2 _ _ hu)
        refine ⟨some (pI i), ?_, sPut (sm.trans sm2) hp, _, upd_same, ?_⟩
        · simp [pI, L2.start]
        · rw [List.range_succ, List.flatMap_append]
          refine pApp (pMono persPr ((sKt sm2).trans kt) pr) ?_
          simpa using pMono persPr kt pr2
    · rintro σ H1 ⟨v2, rfl, sm, us, hu, pr⟩
      walk_at "rd"
      exact q p us H1 sm hp hu pr
def either (kvs : DT) (p : Nat × Nat) : Bool := hasP kvs p || hasP kvs (p.2, p.1)
def sp_made : Sp := fun vs H Q _ => ∃ (n : Nat) (d : Addr) (kvs : DT), vs = [pI n, .ref d] ∧ n ≤ 1000 ∧ H d = some (.dT kvs) ∧ ∀ (v : V) (H' : Hp), Same H H' → Net H' v n ((allPairs n).filter (either kvs)) → Q v H'
theorem cal_made (A : At K mg "_law_made" s_law_made) (B : Bi mg) (c_law_pairs : Cal P w K mg base 1 "_law_pairs" sp_pairs) : Cal P w K mg base 2 "_law_made" sp_made := by
  have nd := sc_law_made.nd
  refine A.cal sc_law_made (fun _ _ _ _ _ _ us hl => match us, hl with | [_, _], _ => rfl) ?_ fun f cdv A' outer s H vs Q E hr h => ⟨_, (pss_one (ps_ret (pe_tup (pa_cons (pv 0) (pa_cons (pe_callTy (call_tuple_ofK (K := K) rfl) (by rfl) B.tuple (by decide +kernel) (pa_cons (pe_lc (own := [("x", 2), ("y", 3)]) rfl nd (pi_listK (K := K) rfl (pe_cal c_law_pairs hr (by decide) (by rfl) passE (pa_cons (pv 0) pa_nil))) (blkOk_by (own := [("x", 2), ("y", 3)]) (N := N_law_made) (sc := defScope s_law_made) (by decide +kernel)) (fun _ _ _ _ _ => (pg_tupK (K := K) (n := 2) rfl rfl (pgs_cons (pg_name (i := 2) nd rfl (.inl rfl) (.inr rfl)) (pgs_cons (pg_name (i := 3) nd rfl (.inl rfl) (.inr rfl)) pgs_nil)))) (fun _ _ _ _ _ => (pts_one (PW.pt (pw_or (pt_cmp (pc_din (hu_of hr) (pe_tup (pa_cons (pv 2) (pa_cons (pv 3) pa_nil))) (pv 1)) rfl) (pw_or1 (pt_cmp (pc_din (hu_of hr) (pe_tup (pa_cons (pv 3) (pa_cons (pv 2) pa_nil))) (pv 1)) rfl)))))) (fun _ _ _ _ _ => (pe_tup (pa_cons (pv 2) (pa_cons (pv 3) pa_nil))))) pa_nil)) pa_nil))))), ?_⟩
  · rintro vs H Q E ⟨n, d, kvs, rfl, _⟩
    rfl
  · obtain ⟨n, d, kvs, rfl, hn, hd, q⟩ := h
    walk_at "rd"
    intro p us H1 sm np hu pr
    refine ⟨p, rfl, ⟨_, SqL.of hu⟩, fun D hD => ?_⟩
    have len1 := pr.length
    have len2 := allPairs_len n
    have len3 : n * n ≤ 1000 * 1000 := Nat.mul_le_mul hn hn
    refine comp_list persPr (fun x => if either kvs x then some x else none) persPr hD (SqL.of hu) (sizeBig (by omega)) pr ?_ ?_
    · rintro x v H2 Yes No hx ⟨t, rfl, ht⟩ sm2 yes no
      have hd2 : H2 d = some (.dT kvs) := sm2 _ _ (sm _ _ hd)
      have fin : ∀ H3, Same H2 H3 → either kvs x = true → ∀ (t1 : Addr), H3 t1 = none → Yes (.ref t1) (upd H3 t1 (.tup [pI x.1, pI x.2])) := fun H3 s3 e t1 h1 =>
        yes x (by rw [e]; rfl) _ _ (sNew s3 h1) ⟨t1, rfl, upd_same⟩
      refine ⟨t, _, rfl, SqT.of ht, rfl, _, _, rfl, _, _, rfl, rfl, rfl, ?_⟩
      walk_at "rd"
      refine ⟨by show 2 ≤ sizeLine; decide, fun t1 h1 => ?_⟩
      walk_at "rd"
      refine ⟨_, _, rfl, dgetP (x := x) (by rw [upd_ne (ne_of_none hd2 h1)]; exact hd2) upd_same rfl rfl, ?_⟩
      refine ⟨_, rfl, ifB (fun e => ?_) (fun e => ?_)⟩
      · refine iteT ?_
        walk_at "rd"
        refine ⟨by show 2 ≤ sizeLine; decide, fun t2 h2 => ?_⟩
        exact fin _ (same_laid h1) (by unfold either; rw [show hasP kvs x = true from e]; rfl) t2 h2
      · walk_at "rd"
        refine ⟨by show 2 ≤ sizeLine; decide, fun t2 h2 => ?_⟩
        have s2 := sNew (same_laid (o := .tup [pI x.1, pI x.2]) h1) (o := .tup [pI x.2, pI x.1]) h2
        walk_at "rd"
        refine ⟨_, _, rfl, dgetP (x := (x.2, x.1)) (s2 _ _ hd2) upd_same rfl rfl, ?_⟩
        refine ⟨_, rfl, ifB (fun e2 => ?_) (fun e2 => ?_)⟩
        · walk_at "rd"
          refine ⟨by show 2 ≤ sizeLine; decide, fun t3 h3 => ?_⟩
          exact fin _ s2 (by unfold either; rw [show hasP kvs (x.2, x.1) = true from e2, Bool.or_true]) t3 h3
        · exact no (by unfold either; rw [show hasP kvs x = false from e, show hasP kvs (x.2, x.1) = false from e2]; rfl) _ s2
    · intro H2 ys sm2 hy pr2
      have e : (allPairs n).filterMap (fun x => if either kvs x then some x else none) = (allPairs n).filter (either kvs) := by
        rw [← List.filterMap_eq_filter]
        rfl
      rw [e] at pr2
      refine ⟨_, _, rfl, .inl ⟨SqL.of hy, fun t ht => ?_⟩⟩
      refine ⟨by show 2 ≤ sizeLine; decide, fun t2 h2 => ?_⟩
      refine q _ _ (sNew (sNew (sm.trans sm2) ht) h2) ⟨t2, .ref t, rfl, upd_same, t, ys, rfl, ?_, ?_⟩
      · rw [upd_ne (ne_of_none upd_same h2)]
        exact upd_same
      · exact pMono persPr ((KeepT.new ht).trans (KeepT.new h2)) pr2
/-! ### all points in a drawn order -/
/-- a tuple of points, its object known -/
def Row (H : Hp) (v : V) (xs : List Nat) : Prop := ∃ (t : Addr) (o : Obj), v = .ref t ∧ H t = some (.frz o (.tup (xs.map pI))) ∧ o.dict = none
theorem Row.same {H H' : Hp} {v : V} {xs : List Nat} (x : Row H v xs) (k : Same H H') : Row H' v xs := by
  obtain ⟨t, o, e, h, d⟩ := x
  exact ⟨t, o, e, k _ _ h, d⟩
theorem Row.kp {b l : Addr} {H H' : Hp} {v : V} {xs : List Nat} (hb : Box H b l) (x : Row H v xs) (k : Kp b l H H') : Row H' v xs := by
  obtain ⟨t, o, e, h, d⟩ := x
  obtain ⟨_, _, _, _, g, _⟩ := hb
  exact ⟨t, o, e, k.same _ _ h (ne_of h g (by intro z; cases z)), d⟩
theorem first_at : ∀ {xs : List Nat} {x : Nat}, x ∈ xs → ∃ j : Nat, xs[j]? = some x ∧ ∀ m : Nat, m < j → xs[m]? ≠ some x
  | [], _, h => by cases h
  | y :: ys, x, h => by
    by_cases e : y = x
    · exact ⟨0, by rw [e]; rfl, fun m hm => by omega⟩
    · obtain ⟨j, h1, h2⟩ := first_at (xs := ys) (x := x) ((List.mem_cons.mp h).resolve_left (fun z => e z.symm))
      refine ⟨j + 1, by simpa using h1, fun m hm => ?_⟩
      cases m with
      | zero => simpa using e
      | succ m => simpa using h2 m (by omega)
theorem first_atI {xs : List Nat} {x : Nat} (h : x ∈ xs) : ∃ j : Nat, (xs.map fun z : Nat => (z : Int))[j]? = some (x : Int) ∧ ∀ m : Nat, m < j → (xs.map fun z : Nat => (z : Int))[m]? ≠ some (x : Int) := by
  obtain ⟨j, h1, h2⟩ := first_at h
  refine ⟨j, by rw [List.getElem?_map, h1]; rfl, fun m hm e => ?_⟩
  rw [List.getElem?_map] at e
  cases q : xs[m]? with
  | none => rw [q] at e; cases e
  | some z =>
    rw [q] at e
    have e2 : (z : Int) = x := Option.some.inj e
    exact h2 m hm (by rw [q]; congr 1; omega)
theorem map_pI (xs : List Nat) : xs.map pI = (xs.map fun z : Nat => (z : Int)).map V.int := by
  rw [List.map_map]
  rfl
def sp_row : Sp := fun vs H Q _ => ∃ (b l : Addr) (n : Nat), vs = [.ref b, pI n] ∧ n ≤ 1000 ∧ Box H b l ∧ ∀ (v : V) (xs : List Nat) (H' : Hp), xs.Perm (List.range n) → Row H' v xs → Kp b l H H' → Q v H'
/-! ### dicts of ties -/
def spBy : Sp := fun vs H Q _ => ∃ (b l : Addr) (n : Nat), vs = [.ref b, pI n] ∧ n ≤ 1000 ∧ Box H b l ∧ ∀ (d : Addr) (kvs : DT) (H' : Hp), H d = none → H' d = some (.dT kvs) → KeysIn n kvs → Kp b l H H' → Q (.ref d) H'
theorem box_ne {H : Hp} {b l p : Addr} (hb : Box H b l) (hp : H p = none) : p ≠ b := fun e => by
  obtain ⟨_, _, _, _, g, _⟩ := hb
  rw [e, g] at hp
  cases hp
/-! ### twins -/
end
end Ns

/-! Own layer P: the program's looks at nets. -/
namespace Ns
open PySem PySem.Spec PyProof.Rows L2
local macro_rules | `(tactic| walk_at "look") => `(tactic| first | assumption | exact upd_same | (refine (upd_ne (by first | assumption | exact Ne.symm (by assumption))).trans ?_; walk_at "look"))
local macro_rules | `(tactic| walk_at "cond") => `(tactic| first | assumption | omega | (dsimp only; omega) | exact ⟨by omega, by omega⟩ | decide | exact ⟨by decide, by decide, by decide⟩ | exact .inr ⟨by decide, by decide⟩ | exact .inl ⟨by decide, by decide⟩ | exact .inr ⟨by omega, by omega⟩ | exact .inl ⟨by omega, by omega⟩)
local macro_rules | `(tactic| walk_at "rd1") => `(tactic| first
  | refine ⟨_, rfl, ?_⟩
  | refine ⟨_, _, rfl, rfl, ?_⟩
  | refine ⟨rfl, ?_⟩
  | refine ⟨_, _, rfl, rfl, (by walk_at "cond"), ?_⟩
  | refine ⟨_, _, _, _, rfl, rfl, SqL.of (by walk_at "look"), rfl, ?_⟩
  | refine ⟨_, _, _, _, rfl, rfl, SqT.of (by walk_at "look"), rfl, ?_⟩
  | refine ⟨_, _, _, _, rfl, rfl, (by walk_at "look"), rfl, ?_⟩
  | refine .inl ⟨_, rfl, ?_⟩
  | refine ⟨.inl ⟨rfl, _, SqL.of (by walk_at "look")⟩, ?_⟩
  | refine ⟨_, _, rfl, ⟨by omega, by omega, by omega, by omega⟩, ?_⟩
  | refine ⟨_, rfl, (by omega), (by omega), ?_⟩
  | refine And.intro (by walk_at "cond") ?_)
local macro_rules | `(tactic| walk_at "rd") => `(tactic| repeat (walk_at "rd1"))

abbrev s_is_number : Stmt := top 7
abbrev N_is_number : List Str := ["x"]
theorem sc_is_number : FnScope N_is_number ["x"] (defScope s_is_number) := ⟨rfl, rfl, rfl, by decide +kernel, rfl, by decide +kernel, by decide +kernel⟩
abbrev s_is_pair : Stmt := top 8
abbrev N_is_pair : List Str := ["x"]
theorem sc_is_pair : FnScope N_is_pair ["x"] (defScope s_is_pair) := ⟨rfl, rfl, rfl, by decide +kernel, rfl, by decide +kernel, by decide +kernel⟩
abbrev s_is_net : Stmt := top 9
abbrev N_is_net : List Str := ["x", "before", "pair"]
theorem sc_is_net : FnScope N_is_net ["x"] (defScope s_is_net) := ⟨rfl, rfl, rfl, by decide +kernel, rfl, by decide +kernel, by decide +kernel⟩
abbrev s_check_net : Stmt := top 10
abbrev N_check_net : List Str := ["x"]
theorem sc_check_net : FnScope N_check_net ["x"] (defScope s_check_net) := ⟨rfl, rfl, rfl, by decide +kernel, rfl, by decide +kernel, by decide +kernel⟩
section
variable {P : Program} {w : World} {K : PySem.W.Frag} {mg : Str → Option Value} {base : Heap}
def sp_is_number (K : PySem.W.Frag) : Sp := fun vs H Q _ => ∃ (v : V) (d : PyData), vs = [v] ∧ Dp K H v d ∧ Q (.bl (isNumD d)) H
theorem cal_is_number (A : At K mg "is_number" s_is_number) (B : Bi mg) : Cal P w K mg base 1 "is_number" (sp_is_number K) := by
  have nd := sc_is_number.nd
  refine A.cal sc_is_number (fun _ _ _ _ _ _ us hl => match us, hl with | [_], _ => rfl) ?_ fun f cdv A' outer s H vs Q E hr h => ⟨_, (pss_one (ps_ret (pe_and (pe_callB (call_isiK' (K := K) rfl) (by rfl) B.isinstance (by decide +kernel) (pa_cons (pv 0) (pa_cons (pe_bltn (v := .ty "int") (u := .type "int") (by rfl) B.int_ (by decide +kernel) rfl) pa_nil))) (pe_one (pe_not (pe_callB (call_isiK' (K := K) rfl) (by rfl) B.isinstance (by decide +kernel) (pa_cons (pv 0) (pa_cons (pe_bltn (v := .ty "bool") (u := .type "bool") (by rfl) B.bool (by decide +kernel) rfl) pa_nil)))))))), ?_⟩
  · rintro vs H Q E ⟨v, d, rfl, _⟩
    rfl
  · obtain ⟨v, d, rfl, hd, q⟩ := h
    refine ⟨_, rfl, _, .ty "int", .type (tyName _), .type "int", _, rfl, .ty _, tyX_of hd, kit_ty (kit_isi _ "int" (by simp)), ?_⟩
    rw [isi_int]
    refine ⟨_, rfl, ifB (fun c => ?_) (fun c => ?_)⟩
    · refine ⟨_, rfl, _, .ty "bool", .type (tyName _), .type "bool", _, rfl, .ty _, tyX_of hd, kit_ty (kit_isi _ "bool" (by simp)), ?_⟩
      rw [isi_bool]
      refine ⟨_, rfl, ?_⟩
      cases d <;> first | exact q | cases c
    · cases d <;> first | exact q | cases c
def sp_is_pair (K : PySem.W.Frag) : Sp := fun vs H Q _ => ∃ (v : V) (d : PyData), vs = [v] ∧ Dp K H v d ∧ Q (.bl (isPairD d)) H
theorem cal_is_pair (A : At K mg "is_pair" s_is_pair) (B : Bi mg) (c_is_number : Cal P w K mg base 1 "is_number" (sp_is_number K)) : Cal P w K mg base 2 "is_pair" (sp_is_pair K) := by
  have nd := sc_is_pair.nd
  refine A.cal sc_is_pair (fun _ _ _ _ _ _ us hl => match us, hl with | [_], _ => rfl) ?_ fun f cdv A' outer s H vs Q E hr h => ⟨_, (pss_one (ps_ret (pe_and (pe_callB (call_isiK' (K := K) rfl) (by rfl) B.isinstance (by decide +kernel) (pa_cons (pv 0) (pa_cons (pe_bltn (v := .ty "tuple") (u := .type "tuple") (by rfl) B.tuple (by decide +kernel) rfl) pa_nil))) (pe_and (pe_cmpR op_eq (pe_callB (call_lenK (K := K) rfl) (by rfl) B.len (by decide +kernel) (pa_cons (pv 0) pa_nil)) pe_int (nomark _)) (pe_and (pe_cal c_is_number hr (by decide) (by rfl) passE (pa_cons (pe_ix (ix_seqK (K := K) rfl) (pv 0) pe_int (fun _ _ => rfl)) pa_nil)) (pe_one (pe_cal c_is_number hr (by decide) (by rfl) passE (pa_cons (pe_ix (ix_seqK (K := K) rfl) (pv 0) pe_int (fun _ _ => rfl)) pa_nil)))))))), ?_⟩
  · rintro vs H Q E ⟨v, d, rfl, _⟩
    rfl
  · obtain ⟨v, d, rfl, hd, q⟩ := h
    refine ⟨_, rfl, _, .ty "tuple", .type (tyName _), .type "tuple", _, rfl, .ty _, tyX_of hd, kit_ty (kit_isi _ "tuple" (by simp)), ?_⟩
    rw [isi_tuple]
    refine ⟨_, rfl, ifB (fun c => ?_) (fun c => ?_)⟩
    · cases hd with
      | tup hs ha =>
        rename_i a xs ds
        have hlen := DpAll.len ha
        refine ⟨_, rfl, _, _, rfl, .inr ⟨_, hs, rfl⟩, rfl, _, rfl, ifI (fun c2 => ?_) (fun c2 => ?_)⟩
        · have l2 : ds.length = 2 := by omega
          obtain ⟨d0, d1, rfl⟩ : ∃ d0 d1, ds = [d0, d1] := by
            match ds, l2 with
            | [d0, d1], _ => exact ⟨d0, d1, rfl⟩
          obtain ⟨v0, h0, g0⟩ := dpAt2 (i := 0) ha rfl
          obtain ⟨v1, h1, g1⟩ := dpAt2 (i := 1) ha rfl
          refine ⟨_, rfl, .inr (.inl ⟨_, _, _, _, rfl, rfl, hs, atI_nat (j := 0) h0, ?_⟩)⟩
          refine ⟨v0, d0, rfl, g0, _, rfl, ifB (fun c3 => ?_) (fun c3 => ?_)⟩
          · refine ⟨_, rfl, .inr (.inl ⟨_, _, _, _, rfl, rfl, hs, atI_nat (j := 1) h1, ?_⟩)⟩
            refine ⟨v1, d1, rfl, g1, ?_⟩
            have e : isPairD (.tuple [d0, d1]) = isNumD d1 := by
              cases d0 <;> first | (cases c3; done) | (cases d1 <;> rfl)
            rw [← e]
            exact q
          · have e : isPairD (.tuple [d0, d1]) = false := by
              cases d0 <;> first | (cases c3; done) | rfl
            rw [← e]
            exact q
        · have e : isPairD (.tuple ds) = false := by
            match ds, hlen with
            | [], _ => rfl
            | [_], _ => simp [isPairD]
            | [_, _], h => exact absurd (by rw [h]; rfl) c2
            | _ :: _ :: _ :: _, _ => simp [isPairD]
          rw [← e]
          exact q
      | _ => cases c
    · have e : isPairD d = false := by cases d <;> first | rfl | cases c
      rw [← e]
      exact q
/-! ### is_net -/
theorem okFrom_cons {n : Int} {b : Int × Int} {d : PyData} {r : List PyData} (h : isPairD d = false) : okFrom n b (d :: r) = false := by
  cases hh : okFrom n b (d :: r) with
  | false => rfl
  | true =>
    exfalso
    unfold okFrom at hh
    split at hh
    · rename_i e
      cases e
    · rename_i e
      cases e
      cases h
    · cases hh
def sp_is_net (K : PySem.W.Frag) : Sp := fun vs H Q _ => ∃ (v : V) (d : PyData), vs = [v] ∧ Dp K H v d ∧ ∀ H', Same H H' → Q (.bl (isNetD d)) H'
theorem cal_is_net (A : At K mg "is_net" s_is_net) (B : Bi mg) (hM : ∃ t, mg "MOST" = some (.int 40 t)) (c_is_number : Cal P w K mg base 1 "is_number" (sp_is_number K)) (c_is_pair : Cal P w K mg base 2 "is_pair" (sp_is_pair K)) : Cal P w K mg base 3 "is_net" (sp_is_net K) := by
  have nd := sc_is_net.nd
  obtain ⟨tM, c_MOST⟩ := hM
  refine A.cal sc_is_net (fun _ _ _ _ _ _ us hl => match us, hl with | [_], _ => rfl) ?_ fun f cdv A' outer s H vs Q E hr h => ⟨_, (pss_cons (ps_if (PW.pt (pw_or (pt_not (pt_val (pe_callB (call_isiK' (K := K) rfl) (by rfl) B.isinstance (by decide +kernel) (pa_cons (pv 0) (pa_cons (pe_bltn (v := .ty "tuple") (u := .type "tuple") (by rfl) B.tuple (by decide +kernel) rfl) pa_nil))))) (pw_or (pt_cmpR op_ne (pe_callB (call_lenK (K := K) rfl) (by rfl) B.len (by decide +kernel) (pa_cons (pv 0) pa_nil)) pe_int (nomark _)) (pw_or (pt_not (pt_val (pe_cal c_is_number hr (by decide) (by rfl) passE (pa_cons (pe_ix (ix_seqK (K := K) rfl) (pv 0) pe_int (fun _ _ => rfl)) pa_nil)))) (pw_or1 (pt_not (pt_val (pe_callB (call_isiK' (K := K) rfl) (by rfl) B.isinstance (by decide +kernel) (pa_cons (pe_ix (ix_seqK (K := K) rfl) (pv 0) pe_int (fun _ _ => rfl)) (pa_cons (pe_bltn (v := .ty "tuple") (u := .type "tuple") (by rfl) B.tuple (by decide +kernel) rfl) pa_nil)))))))))) (pss_one (ps_ret pe_bl)) pss_nil)
  (pss_cons (ps_if (pt_not (pt_chain op_le op_le pe_int (pe_ix (ix_seqK (K := K) rfl) (pv 0) pe_int (fun _ _ => rfl)) (pe_glob (v := .int 40) rfl c_MOST ⟨_, rfl⟩))) (pss_one (ps_ret pe_bl)) pss_nil)
  (pss_cons (ps_set (i := 1) nd rfl (.inl rfl) (pe_tup (pa_cons (pe_un un_neg pe_int) (pa_cons (pe_un un_neg pe_int) pa_nil))))
  (pss_cons (ps_for passOwn rfl (pi_tupK (K := K) rfl (pe_ix (ix_seqK (K := K) rfl) (pv 0) pe_int (fun _ _ => rfl))) (pg_name (i := 2) nd rfl (.inl rfl)) (pss_cons (ps_if (PW.pt (pw_or (pt_not (pt_val (pe_cal c_is_pair hr (by decide) (by rfl) passE (pa_cons (pv 2) pa_nil)))) (pw_or (pt_not (pt_chain3 op_le op_lt op_lt pe_int (pe_ix (ix_tupK (K := K) rfl) (pv 2) pe_int (fun _ _ => rfl)) (pe_ix (ix_tupK (K := K) rfl) (pv 2) pe_int (fun _ _ => rfl)) (pe_ix (ix_seqK (K := K) rfl) (pv 0) pe_int (fun _ _ => rfl)))) (pw_or1 (pt_not (pt_cmpR (op_ltTK (K := K) rfl hr.units0) (pv 1) (pv 2) (nomark _))))))) (pss_one (ps_ret pe_bl)) pss_nil)
  (pss_one (ps_set (i := 1) nd rfl (.inl rfl) (pv 2)))))
  (pss_one (ps_ret pe_bl)))))), ?_⟩
  · rintro vs H Q E ⟨v, d, rfl, _⟩
    rfl
  · obtain ⟨v, d, rfl, hd, q⟩ := h
    have no : isNetD d = false → Q (.bl false) H := fun e => by
      rw [← e]
      exact q H (Same.refl H)
    refine ⟨_, rfl, _, .ty "tuple", .type (tyName _), .type "tuple", _, rfl, .ty _, tyX_of hd, kit_ty (kit_isi _ "tuple" (by simp)), ?_⟩
    rw [isi_tuple]
    refine ⟨_, rfl, ?_⟩
    cases hd with
    | tup hs ha =>
      rename_i a xs ds
      have hlen := DpAll.len ha
      refine ⟨_, rfl, _, _, rfl, .inr ⟨_, hs, rfl⟩, rfl, _, rfl, ifNI (fun c2 => ?_) (fun c2 => ?_)⟩
      · refine iteT (no ?_)
        match ds, hlen with
        | [], _ => rfl
        | [_], _ => simp [isNetD]
        | [_, _], h => exact absurd (by rw [h]; rfl) c2
        | _ :: _ :: _ :: _, _ => simp [isNetD]
      · have l2 : ds.length = 2 := by omega
        obtain ⟨d0, d1, rfl⟩ : ∃ d0 d1, ds = [d0, d1] := by
          match ds, l2 with
          | [d0, d1], _ => exact ⟨d0, d1, rfl⟩
        obtain ⟨v0, h0, g0⟩ := dpAt2 (i := 0) ha rfl
        obtain ⟨v1, h1, g1⟩ := dpAt2 (i := 1) ha rfl
        have hx0 : atI xs 0 = some v0 := atI_nat (j := 0) h0
        have hx1 : atI xs 1 = some v1 := atI_nat (j := 1) h1
        refine ⟨_, rfl, .inr (.inl ⟨_, _, _, _, rfl, rfl, hs, hx0, v0, d0, rfl, g0, _, rfl, ?_⟩)⟩
        cases g0 with
        | int n =>
          refine ⟨_, rfl, .inr (.inl ⟨_, _, _, _, rfl, rfl, hs, hx1, _, .ty "tuple", .type (tyName _), .type "tuple", _, rfl, .ty _, tyX_of g1, kit_ty (kit_isi _ "tuple" (by simp)), ?_⟩)⟩
          rw [isi_tuple]
          refine ⟨_, rfl, ?_⟩
          cases g1 with
          | tup ts ta =>
            rename_i a1 us ps
            -- 0 <= x[0] <= MOST
            have bound : ∀ {p : Prop}, ¬ (0 ≤ n ∧ n ≤ 40) → isNetD (.tuple [.int n, .tuple ps]) = false := fun hn => by
              show (decide (0 ≤ n ∧ n ≤ 40) && okFrom n (-1, -1) ps) = false
              rw [decide_eq_false hn]
              rfl
            refine ⟨_, rfl, .inr (.inl ⟨_, _, _, _, rfl, rfl, hs, hx0, _, _, rfl, rfl, _, rfl, ifD (fun c3 => ?_) (fun c3 => ?_)⟩)⟩
            · refine ⟨_, _, rfl, rfl, _, rfl, ifN (fun c4 => ?_) (fun c4 => ?_)⟩
              · exact no (bound (p := True) fun e => by simp at c4; omega)
              · have hn0 : 0 ≤ n ∧ n ≤ 40 := ⟨c3, by simpa using c4⟩
                have en : isNetD (.tuple [.int n, .tuple ps]) = okFrom n (-1, -1) ps := by
                  show (decide (0 ≤ n ∧ n ≤ 40) && okFrom n (-1, -1) ps) = okFrom n (-1, -1) ps
                  rw [decide_eq_true hn0]
                  rfl
                rw [en] at q
                -- before = (-1, -1)
                refine ⟨_, rfl, _, rfl, by show 2 ≤ sizeLine; decide, fun t0 ht0 => ?_⟩
                have s1 := same_laid (o := .tup [.int (-1), .int (-1)]) ht0
                refine ⟨_, rfl, .inr (.inl ⟨_, _, _, _, rfl, rfl, sqT_same s1 hs, hx1, a1, rfl, ⟨_, sqT_same s1 ts⟩, ?_⟩)⟩
                have lu := DpAll.len ta
                refine for_tup (K := K) (a := a1) (xs := us) (fun i σ H1 => H1 = upd H t0 (.tup [.int (-1), .int (-1)]) ∧ ∃ (bt : Addr) (bx bz : Int) (v2 : Option V), σ = [some (.ref a), some (.ref bt), v2] ∧ SqT K H1 bt ([bx, bz].map V.int) ∧ okFrom n (-1, -1) ps = okFrom n (bx, bz) (ps.drop i))
                  ⟨rfl, t0, -1, -1, none, rfl, SqT.of upd_same, rfl⟩ (fun i σ H1 _ ⟨e, _⟩ => by rw [e]; exact sqT_same s1 ts) ?_ ?_
                · rintro i y σ H1 hy ⟨rfl, bt, bx, bz, v2, rfl, hb, eo⟩
                  obtain ⟨dy, hdy, gy⟩ := dpAt ta hy
                  have gy1 := Dp.same s1 _ _ gy
                  have hdrop : ps.drop i = dy :: ps.drop (i + 1) := by
                    rw [List.drop_eq_getElem_cons (List.getElem?_eq_some_iff.mp hdy).1, (List.getElem?_eq_some_iff.mp hdy).2]
                  rw [hdrop] at eo
                  have stop : okFrom n (bx, bz) (dy :: ps.drop (i + 1)) = false → Q (.bl false) (upd H t0 (.tup [.int (-1), .int (-1)])) := fun e => by
                    have := q _ s1
                    rw [eo, e] at this
                    exact this
                  refine ⟨_, rfl, y, dy, rfl, gy1, _, rfl, ifN (fun c5 => ?_) (fun c5 => ?_)⟩
                  · exact stop (okFrom_cons c5)
                  · obtain ⟨x, z, rfl⟩ : ∃ x z, dy = .tuple [.int x, .int z] := by
                      unfold isPairD at c5
                      split at c5
                      · exact ⟨_, _, rfl⟩
                      · cases c5
                    cases gy1 with
                    | tup ys ya =>
                      rename_i ya1 yv
                      obtain ⟨w0, k0, j0⟩ := dpAt2 (i := 0) ya rfl
                      obtain ⟨w1, k1, j1⟩ := dpAt2 (i := 1) ya rfl
                      cases j0
                      cases j1
                      have lyv := DpAll.len ya
                      have eyv : yv = [x, z].map V.int := by
                        match yv, lyv, k0, k1 with
                        | [y0, y1], _, k0, k1 =>
                          have e0 := Option.some.inj k0
                          have e1 := Option.some.inj k1
                          rw [e0, e1]
                          rfl
                      subst eyv
                      have eok : okFrom n (bx, bz) (.tuple [.int x, .int z] :: ps.drop (i + 1)) = ((decide (0 ≤ x ∧ x < z ∧ z < n) && HT.lexLt [bx, bz] [x, z]) && okFrom n (x, z) (ps.drop (i + 1))) := rfl
                      rw [eok] at stop eo
                      have bad : ¬ (0 ≤ x ∧ x < z ∧ z < n) → Q (.bl false) (upd H t0 (.tup [.int (-1), .int (-1)])) := fun e => stop (by rw [decide_eq_false e]; rfl)
                      refine ⟨_, rfl, _, _, _, _, rfl, rfl, ys, rfl, _, _, rfl, rfl, _, rfl, ifD (fun c6 => ?_) (fun c6 => ?_)⟩
                      · refine ⟨_, rfl, _, _, _, _, rfl, rfl, ys, rfl, _, _, rfl, rfl, _, rfl, ifD (fun c7 => ?_) (fun c7 => ?_)⟩
                        · refine ⟨_, rfl, .inr (.inl ⟨_, _, _, _, rfl, rfl, sqT_same s1 hs, hx0, _, _, rfl, rfl, _, rfl, ifN (fun c8 => ?_) (fun c8 => ?_)⟩)⟩
                          · exact bad fun e => by simp at c8; omega
                          · have c8 : z < n := by simpa using c8
                            have good : decide (0 ≤ x ∧ x < z ∧ z < n) = true := decide_eq_true ⟨c6, c7, c8⟩
                            refine ⟨_, rfl, _, rfl, bt, ya1, [bx, bz], [x, z], rfl, rfl, hb, ys, _, rfl, ifN (fun c9 => ?_) (fun c9 => ?_)⟩
                            · exact stop (by rw [good, c9]; rfl)
                            · refine ⟨_, rfl, rfl, ya1, x, z, _, rfl, ys, ?_⟩
                              rw [eo, good, c9]
                              rfl
                        · refine ⟨_, rfl, ?_⟩
                          exact bad fun e => c7 e.2.1
                      · refine ⟨_, rfl, ?_⟩
                        exact bad fun e => c6 e.1
                · rintro σ H1 ⟨rfl, bt, bx, bz, v2, rfl, hb, eo⟩
                  have := q _ s1
                  rw [eo, lu, List.drop_length] at this
                  exact this
            · refine ⟨_, rfl, ?_⟩
              exact no (bound (p := True) fun e => c3 e.1)
          | _ => exact no (by simp [isNetD])
        | _ => exact no (by simp [isNetD])
    | _ => exact no rfl
/-! ### check_net -/
def sp_check_net (K : PySem.W.Frag) (CB : Addr) : Sp := fun vs H Q E => ∃ (v : V) (d : PyData), vs = [v] ∧ Dp K H v d ∧ (isNetD d = true → ∀ H', Same H H' → Q .non H') ∧ (isNetD d = false → ∀ H', Same H H' → E (.ref CB) none H')
theorem cal_check_net {CB : Addr} (A : At K mg "check_net" s_check_net) (x_BadNet : ExcC K mg "BadNet" CB) (c_is_net : Cal P w K mg base 3 "is_net" (sp_is_net K)) : Cal P w K mg base 4 "check_net" (sp_check_net K CB) := by
  have nd := sc_check_net.nd
  refine A.cal sc_check_net (fun _ _ _ _ _ _ us hl => match us, hl with | [_], _ => rfl) ?_ fun f cdv A' outer s H vs Q E hr h => ⟨_, (pss_one (ps_if (pt_not (pt_val (pe_cal c_is_net hr (by decide) (by rfl) passE (pa_cons (pv 0) pa_nil)))) (pss_one (ps_raise rfl (takes_of rfl rfl rfl rfl) (pmk_own0 PySem.F.excBase_ValueError x_BadNet.ex x_BadNet.g x_BadNet.kp (raises_own x_BadNet.sub x_BadNet.ty) (by rfl)))) pss_nil)), ?_⟩
  · rintro vs H Q E ⟨v, d, rfl, _⟩
    rfl
  · obtain ⟨v, d, rfl, hd, q1, q2⟩ := h
    refine ⟨_, rfl, v, d, rfl, hd, fun H' sm => ⟨_, rfl, ifN (fun c => ?_) (fun c => ?_)⟩⟩
    · exact q2 c H' sm
    · exact q1 c H' sm
end
end Ns

/-! Own layer N: the table of a net's ties. -/
namespace Ns
open PySem PySem.Spec PyProof.Rows L2
local macro_rules | `(tactic| walk_at "look") => `(tactic| first | assumption | exact upd_same | (refine (upd_ne (by first | assumption | exact Ne.symm (by assumption))).trans ?_; walk_at "look"))
local macro_rules | `(tactic| walk_at "cond") => `(tactic| first | assumption | omega | (dsimp only; omega) | exact ⟨by omega, by omega⟩ | decide | exact ⟨by decide, by decide, by decide⟩ | exact .inr ⟨by decide, by decide⟩ | exact .inl ⟨by decide, by decide⟩ | exact .inr ⟨by omega, by omega⟩ | exact .inl ⟨by omega, by omega⟩)
local macro_rules | `(tactic| walk_at "rd1") => `(tactic| first
  | refine ⟨_, rfl, ?_⟩
  | refine ⟨_, _, rfl, rfl, ?_⟩
  | refine ⟨rfl, ?_⟩
  | refine ⟨_, _, rfl, rfl, (by walk_at "cond"), ?_⟩
  | refine ⟨_, _, _, _, rfl, rfl, SqL.of (by walk_at "look"), rfl, ?_⟩
  | refine ⟨_, _, _, _, rfl, rfl, SqT.of (by walk_at "look"), rfl, ?_⟩
  | refine ⟨_, _, _, _, rfl, rfl, (by walk_at "look"), rfl, ?_⟩
  | refine .inl ⟨_, rfl, ?_⟩
  | refine ⟨.inl ⟨rfl, _, SqL.of (by walk_at "look")⟩, ?_⟩
  | refine ⟨_, _, rfl, ⟨by omega, by omega, by omega, by omega⟩, ?_⟩
  | refine ⟨_, rfl, (by omega), (by omega), ?_⟩
  | refine And.intro (by walk_at "cond") ?_)
local macro_rules | `(tactic| walk_at "rd") => `(tactic| repeat (walk_at "rd1"))

abbrev s_matrix : Stmt := top 11
abbrev N_matrix : List Str := ["net", "out", "x", "y"]
theorem sc_matrix : FnScope N_matrix ["net"] (defScope s_matrix) := ⟨rfl, rfl, rfl, by decide +kernel, rfl, by decide +kernel, by decide +kernel⟩
abbrev s_law_table : Stmt := top 29
abbrev N_law_table : List Str := ["net", "tied", "x", "y"]
theorem sc_law_table : FnScope N_law_table ["net"] (defScope s_law_table) := ⟨rfl, rfl, rfl, by decide +kernel, rfl, by decide +kernel, by decide +kernel⟩
def tieT (ties : List (Nat × Nat)) : Tm := fun i j => decide ((i, j) ∈ ties ∨ (j, i) ∈ ties)
theorem tieT_snoc {ties : List (Nat × Nat)} {p : Nat × Nat} {i j : Nat} : setT (setT (tieT ties) p.1 p.2 true) p.2 p.1 true i j = tieT (ties ++ [p]) i j := by
  unfold setT tieT
  have e : ((i, j) ∈ ties ++ [p] ∨ (j, i) ∈ ties ++ [p]) ↔ (i = p.2 ∧ j = p.1) ∨ (i = p.1 ∧ j = p.2) ∨ ((i, j) ∈ ties ∨ (j, i) ∈ ties) := by
    rw [List.mem_append, List.mem_append, List.mem_singleton, List.mem_singleton, Prod.ext_iff, Prod.ext_iff]
    constructor
    · rintro ((h | ⟨h1, h2⟩) | (h | ⟨h1, h2⟩))
      · exact .inr (.inr (.inl h))
      · exact .inr (.inl ⟨h1, h2⟩)
      · exact .inr (.inr (.inr h))
      · exact .inl ⟨h2, h1⟩
    · rintro (⟨h1, h2⟩ | ⟨h1, h2⟩ | h | h)
      · exact .inr (.inr ⟨h2, h1⟩)
      · exact .inl (.inr ⟨h1, h2⟩)
      · exact .inl (.inl h)
      · exact .inr (.inl h)
  by_cases h1 : i = p.2 ∧ j = p.1
  · rw [if_pos h1]
    exact (decide_eq_true (e.mpr (.inl h1))).symm
  · rw [if_neg h1]
    by_cases h2 : i = p.1 ∧ j = p.2
    · rw [if_pos h2]
      exact (decide_eq_true (e.mpr (.inr (.inl h2)))).symm
    · rw [if_neg h2]
      exact decide_eq_decide.mpr ⟨fun h => e.mpr (.inr (.inr h)), fun h => (e.mp h).elim (fun h => absurd h h1) fun h => h.elim (fun h => absurd h h2) id⟩
theorem tieT_sym (ties : List (Nat × Nat)) (i j : Nat) : tieT ties i j = tieT ties j i := decide_eq_decide.mpr Or.comm
theorem tieT_irr {n : Nat} {ties : List (Nat × Nat)} (h : Good n ties) (i : Nat) : tieT ties i i = false := by
  refine decide_eq_false fun h2 => ?_
  have : (i, i) ∈ ties := h2.elim id id
  have := (h.1 _ this).1
  omega
theorem rows_mat {H1 H : Hp} {D : Addr} {rows : List Addr} {n : Nat} {f : Nat → Nat → Bool} (hy : H D = some (.lst (rows.map V.ref))) (rw : Rws H1 H D rows ((List.range n).map fun i => rowV n (f i))) : Mat H D rows n f := by
  have hl := rw.2.length
  rw [List.length_map, List.length_range] at hl
  refine ⟨hy, hl, rw.1, fun i a h => ?_⟩
  obtain ⟨c, hc, h1, _⟩ := pAtL rw.2 h
  have hi := (List.getElem?_eq_some_iff.mp h).1
  rw [List.getElem?_map, List.getElem?_range (by omega)] at hc
  have e := Option.some.inj hc
  rw [h1, ← e]
theorem Rws.new {H1 H : Hp} {D : Addr} {rows : List Addr} {cs : List (List V)} (x : Rws H1 H D rows cs) : ∀ a ∈ rows, H1 a = none := fun a ha => by
  obtain ⟨c, _, _, _, h⟩ := pMemL x.2 ha
  exact h
theorem rep_rowV (n : Nat) : (List.replicate n [V.bl false]).flatten = rowV n fun _ => false := by
  unfold rowV
  rw [List.map_const', List.length_range]
  induction n with
  | zero => rfl
  | succ n ih => rw [List.replicate_succ, List.replicate_succ, List.flatten_cons, ih]; rfl
section
variable {P : Program} {w : World} {K : PySem.W.Frag} {mg : Str → Option Value} {base : Heap}
def sp_matrix : Sp := fun vs H Q _ => ∃ (v : V) (n : Nat) (ties : List (Nat × Nat)), vs = [v] ∧ Net H v n ties ∧ n ≤ 1000 ∧ (∀ p ∈ ties, p.1 < n ∧ p.2 < n) ∧ ∀ (m : Addr) (rows : List Addr) (H' : Hp), Same H H' → H m = none → (∀ a ∈ rows, H a = none) → Mat H' m rows n (tieT ties) → Q (.ref m) H'
theorem cal_matrix (A : At K mg "matrix" s_matrix) (B : Bi mg) : Cal P w K mg base 1 "matrix" sp_matrix := by
  have nd := sc_matrix.nd
  refine A.cal sc_matrix (fun _ _ _ _ _ _ us hl => match us, hl with | [_], _ => rfl) ?_ fun f cdv A' outer s H vs Q E hr h => ⟨_, (pss_cons (ps_setLc (i := 1) (own := [("x", 2)]) rfl nd rfl rfl (sw_true rfl rfl rfl (by decide +kernel)) (pi_range1 (by rfl) B.range (pa_cons (pe_ix (ix_tupK (K := K) rfl) (pv 0) pe_int (fun _ _ => rfl)) pa_nil)) (blkOk_by (own := [("x", 2)]) (N := N_matrix) (sc := defScope s_matrix) (by decide +kernel)) (fun _ _ _ _ _ => (pg_name (i := 2) nd rfl (.inl rfl) (.inr rfl))) (fun _ _ _ _ _ => pts_nil) (fun _ _ _ _ _ => (pe_op op_rep (pe_lst (pa_cons pe_bl pa_nil)) (pe_ix (ix_tupK (K := K) rfl) (pv 0) pe_int (fun _ _ => rfl)))))
  (pss_cons (ps_for passOwn rfl (pi_tupK (K := K) rfl (pe_ix (ix_tupK (K := K) rfl) (pv 0) pe_int (fun _ _ => rfl))) (pg_tupK (K := K) (n := 2) rfl rfl (pgs_cons (pg_name (i := 2) nd rfl (.inl rfl)) (pgs_cons (pg_name (i := 3) nd rfl (.inl rfl)) pgs_nil))) (pss_cons (ps_asg pe_bl (pg_sub (pe_ix (ix_listK (K := K) rfl) (pv 1) (pv 2) (fun _ _ => rfl)) (pv 3) set_list))
  (pss_one (ps_asg pe_bl (pg_sub (pe_ix (ix_listK (K := K) rfl) (pv 1) (pv 3) (fun _ _ => rfl)) (pv 2) set_list)))))
  (pss_one (ps_ret (pv 1))))), ?_⟩
  · rintro vs H Q E ⟨v, n, ties, rfl, _⟩
    rfl
  · obtain ⟨v, n, ties, rfl, hN, hn, hg, q⟩ := h
    obtain ⟨t, u, rfl, h, t2, us, rfl, h2, pr⟩ := hN
    refine ⟨_, rfl, _, _, _, _, rfl, rfl, SqT.of h, rfl, _, rfl, by omega, by omega, fun D hD => ?_⟩
    refine comp_rows (lo := 0) (n := (n : Int).toNat) (sizeBig (by omega)) (fun _ => rowV n fun _ => false) hD ?_ ?_
    · intro i H2 Yes No hi sm2 yes
      refine ⟨rfl, by show 1 ≤ sizeLine; decide, fun p hp => ?_⟩
      refine ⟨_, rfl, _, _, _, _, rfl, rfl, SqT.of (sNew sm2 hp _ _ h), rfl, p, n, _, rfl, rfl, upd_same, by omega, by omega, ?_, fun a ha => ?_⟩
      · show 1 * (n : Int).toNat ≤ _
        exact Nat.le_of_lt (sizeBig (by omega))
      · refine yes a _ (sNew (same_laid hp) ha) ?_ ?_
        · by_cases e : a = p
          · rw [e]
            exact hp
          · rw [upd_ne e] at ha
            exact ha
        · rw [upd_same, show ((n : Int)).toNat = n from Int.toNat_natCast n, rep_rowV]
    · intro H2 rows sm2 hy rw
      rw [show ((n : Int)).toNat = n from Int.toNat_natCast n] at rw
      have M0 : Mat H2 D rows n (tieT []) := (rows_mat (f := fun _ _ => false) hy rw).congr fun i j _ _ => rfl
      have hnew := rw.new
      refine ⟨_, rfl, _, _, _, _, rfl, rfl, SqT.of (sm2 _ _ h), rfl, t2, rfl, ⟨_, SqT.of (sm2 _ _ h2)⟩, ?_⟩
      refine for_tup (K := K) (a := t2) (xs := us) (fun i σ H1 => ∃ v2 v3, σ = [some (.ref t), some (.ref D), v2, v3] ∧ Same H H1 ∧ Mat H1 D rows n (tieT (ties.take i))) ⟨none, none, rfl, sm2, M0⟩ (fun i σ H1 _ ⟨_, _, _, s1, _⟩ => SqT.of (s1 _ _ h2)) ?_ ?_
      · rintro i x σ H1 hx ⟨v2, v3, rfl, s1, M1⟩
        obtain ⟨p, hp, tp, rfl, ht⟩ := pAtL pr hx
        have hb := hg p (List.mem_of_getElem? hp)
        refine ⟨tp, _, rfl, SqT.of (s1 _ _ ht), rfl, _, _, rfl, _, _, rfl, rfl, ?_⟩
        refine wrM M1 rfl rfl rfl hb.1 hb.2 fun H3 M3 o3 _ => ?_
        refine wrM M3 rfl rfl rfl hb.2 hb.1 fun H4 M4 o4 _ => ?_
        refine ⟨_, _, rfl, Out.same s1 hnew (o3.trans o4), M4.congr fun a b _ _ => ?_⟩
        rw [List.take_add_one, hp]
        exact tieT_snoc
      · rintro σ H1 ⟨v2, v3, rfl, s1, M1⟩
        rw [pr.length, List.take_length] at M1
        exact ⟨_, rfl, q D rows H1 s1 hD hnew M1⟩
theorem cal_table (A : At K mg "_law_table" s_law_table) (B : Bi mg) : Cal P w K mg base 1 "_law_table" sp_matrix := by
  have nd := sc_law_table.nd
  refine A.cal sc_law_table (fun _ _ _ _ _ _ us hl => match us, hl with | [_], _ => rfl) ?_ fun f cdv A' outer s H vs Q E hr h => ⟨_, (pss_cons (ps_setLc (i := 1) (own := [("x", 2)]) rfl nd rfl rfl (sw_true rfl rfl rfl (by decide +kernel)) (pi_range1 (by rfl) B.range (pa_cons (pe_ix (ix_tupK (K := K) rfl) (pv 0) pe_int (fun _ _ => rfl)) pa_nil)) (blkOk_by (own := [("x", 2)]) (N := N_law_table) (sc := defScope s_law_table) (by decide +kernel)) (fun _ _ _ _ _ => (pg_name (i := 2) nd rfl (.inl rfl) (.inr rfl))) (fun _ _ _ _ _ => pts_nil) (fun _ _ _ _ _ => (pe_op op_rep (pe_lst (pa_cons pe_bl pa_nil)) (pe_ix (ix_tupK (K := K) rfl) (pv 0) pe_int (fun _ _ => rfl)))))
  (pss_cons (ps_for passOwn rfl (pi_tupK (K := K) rfl (pe_ix (ix_tupK (K := K) rfl) (pv 0) pe_int (fun _ _ => rfl))) (pg_tupK (K := K) (n := 2) rfl rfl (pgs_cons (pg_name (i := 2) nd rfl (.inl rfl)) (pgs_cons (pg_name (i := 3) nd rfl (.inl rfl)) pgs_nil))) (pss_cons (ps_asg pe_bl (pg_sub (pe_ix (ix_listK (K := K) rfl) (pv 1) (pv 2) (fun _ _ => rfl)) (pv 3) set_list))
  (pss_one (ps_asg pe_bl (pg_sub (pe_ix (ix_listK (K := K) rfl) (pv 1) (pv 3) (fun _ _ => rfl)) (pv 2) set_list)))))
  (pss_one (ps_ret (pv 1))))), ?_⟩
  · rintro vs H Q E ⟨v, n, ties, rfl, _⟩
    rfl
  · obtain ⟨v, n, ties, rfl, hN, hn, hg, q⟩ := h
    obtain ⟨t, u, rfl, h, t2, us, rfl, h2, pr⟩ := hN
    refine ⟨_, rfl, _, _, _, _, rfl, rfl, SqT.of h, rfl, _, rfl, by omega, by omega, fun D hD => ?_⟩
    refine comp_rows (lo := 0) (n := (n : Int).toNat) (sizeBig (by omega)) (fun _ => rowV n fun _ => false) hD ?_ ?_
    · intro i H2 Yes No hi sm2 yes
      refine ⟨rfl, by show 1 ≤ sizeLine; decide, fun p hp => ?_⟩
      refine ⟨_, rfl, _, _, _, _, rfl, rfl, SqT.of (sNew sm2 hp _ _ h), rfl, p, n, _, rfl, rfl, upd_same, by omega, by omega, ?_, fun a ha => ?_⟩
      · show 1 * (n : Int).toNat ≤ _
        exact Nat.le_of_lt (sizeBig (by omega))
      · refine yes a _ (sNew (same_laid hp) ha) ?_ ?_
        · by_cases e : a = p
          · rw [e]
            exact hp
          · rw [upd_ne e] at ha
            exact ha
        · rw [upd_same, show ((n : Int)).toNat = n from Int.toNat_natCast n, rep_rowV]
    · intro H2 rows sm2 hy rw
      rw [show ((n : Int)).toNat = n from Int.toNat_natCast n] at rw
      have M0 : Mat H2 D rows n (tieT []) := (rows_mat (f := fun _ _ => false) hy rw).congr fun i j _ _ => rfl
      have hnew := rw.new
      refine ⟨_, rfl, _, _, _, _, rfl, rfl, SqT.of (sm2 _ _ h), rfl, t2, rfl, ⟨_, SqT.of (sm2 _ _ h2)⟩, ?_⟩
      refine for_tup (K := K) (a := t2) (xs := us) (fun i σ H1 => ∃ v2 v3, σ = [some (.ref t), some (.ref D), v2, v3] ∧ Same H H1 ∧ Mat H1 D rows n (tieT (ties.take i))) ⟨none, none, rfl, sm2, M0⟩ (fun i σ H1 _ ⟨_, _, _, s1, _⟩ => SqT.of (s1 _ _ h2)) ?_ ?_
      · rintro i x σ H1 hx ⟨v2, v3, rfl, s1, M1⟩
        obtain ⟨p, hp, tp, rfl, ht⟩ := pAtL pr hx
        have hb := hg p (List.mem_of_getElem? hp)
        refine ⟨tp, _, rfl, SqT.of (s1 _ _ ht), rfl, _, _, rfl, _, _, rfl, rfl, ?_⟩
        refine wrM M1 rfl rfl rfl hb.1 hb.2 fun H3 M3 o3 _ => ?_
        refine wrM M3 rfl rfl rfl hb.2 hb.1 fun H4 M4 o4 _ => ?_
        refine ⟨_, _, rfl, Out.same s1 hnew (o3.trans o4), M4.congr fun a b _ _ => ?_⟩
        rw [List.take_add_one, hp]
        exact tieT_snoc
      · rintro σ H1 ⟨v2, v3, rfl, s1, M1⟩
        rw [pr.length, List.take_length] at M1
        exact ⟨_, rfl, q D rows H1 s1 hD hnew M1⟩
end
end Ns

/-! Own layer G: ranges as values, x in a tuple of data, enumerate of a tuple, sorted of a tuple of pairs, pairs compared. -/
namespace Ns
open PySem PySem.Spec PyProof.Rows L2
section
variable {X : Cx} {K : PySem.W.Frag} {tg e : Expr} {te : TE}
/-- range(n) -/
theorem cr_range1 : CallR X (.type "range") (fun vs H Q => ∃ j, vs = [V.int j] ∧ ∀ p, H p = none → Q (.ref p) (upd H p (.rng 0 j))) := by
  intro pins s σ H vs us Q I r h
  obtain ⟨j, rfl, q⟩ := h
  obtain ⟨u1, rfl, t, rfl⟩ := vals1 r
  have new : ObjOk X.prog X.w (upd H s.heap.objs.size (.rng 0 j)) (s.heap.push { cls := .type "range", data := .fields #[.int 0 s.toks, .int j t, .int 1 (s.toks + 1)] }) s.heap.objs.size (.rng 0 j) :=
    ⟨s.toks, t, s.toks + 1, Heap.get?_push_size _ rfl⟩
  refine call_range_1 ⟨.ref s.heap.objs.size, upd H s.heap.objs.size (.rng 0 j), ?_, rfl, q _ (I.hok.fresh (Nat.le_refl _))⟩
  exact I.laid (t' := s.toks + 1 + 1) (fun b o e => Heap.get?_push_of_some _ e) (Nat.le_refl _) new
/-- over a range that a name holds -/
def iRngV (te : TE) : TI := fun σ H R => te σ H fun v H1 => ∃ (a : Addr) (lo hi : Int), v = .ref a ∧ H1 a = some (.rng lo hi) ∧ (-(2 ^ 62) ≤ lo ∧ lo < 2 ^ 62 ∧ -(2 ^ 62) ≤ hi ∧ hi < 2 ^ 62) ∧ R (Itr lo (hi - lo).toNat) H1
theorem pi_rngV (he : PE X e te) : PI X tg e (iRngV te) := by
  refine ⟨fun pins s σ H R I h => ?_⟩
  refine thn (he.run pins s σ H _ I h) fun u s1 ⟨v, H1, I1, rv, a, lo, hi, ev, ha, ⟨h1, h2, h3, h4⟩, q⟩ => ?_
  subst ev
  obtain rfl : u = Value.ref a := rv
  obtain ⟨t1, t2, t3, ho⟩ := I1.hok a _ ha
  refine wpAny_pyIter_range (show IsRange s1.heap a lo hi 1 t1 t2 t3 from ho) (small_one h1 h2 h3 h4) ?_
  refine ⟨s1.heap.objs.size, [s1.heap.objs.size], _, _, H1, rfl, I1.kept (t' := s1.toks) fun b o e => Heap.get?_push_of_some _ e, turn_range _ lo (hi - lo).toNat, ?_, fun b hb => ?_, q⟩
  · have e1 : lo + ((0 : Nat) : Int) * 1 = lo := by simp
    have e2 : (((hi - lo).toNat : Nat) : Int) - ((0 : Nat) : Int) = Builtin.Range.rangeSize lo hi 1 := by
      rw [rangeSize_one]
      split <;> omega
    show IsRangeIter _ _ (lo + ((0 : Nat) : Int) * 1) ((((hi - lo).toNat : Nat) : Int) - ((0 : Nat) : Int)) 1
    rw [e1, e2]
    exact Heap.get?_push_size _ rfl
  · have e : b = s1.heap.objs.size := by simpa using hb
    subst e
    exact I1.fpOk (Nat.le_refl _) (I1.hok.fresh (Nat.le_refl _))
theorem hu66 {A : Around} {k : Nat} (hr : Room k A) : A.units + 66 < cLine := by
  have := hr.un
  omega
/-- d in a tuple of data -/
def rInTD (K : PySem.W.Frag) (neg : Bool) : R2 := fun x y H Q => ∃ d ds, Dp K H x d ∧ Dp K H y (.tuple ds) ∧ SeqAt.shaped d = true ∧ SeqAt.shaped (.tuple ds) = true ∧ Q (.bl (if neg then !ds.any fun z => PyData.eqv z d else ds.any fun z => PyData.eqv z d)) H
theorem shaped_lay {d : PyData} (h : SeqAt.shaped d = true) : d.canLay0 = true ∧ d.depth ≤ 64 := by
  have h2 : (d.canLay0 && decide (d.depth ≤ 64)) = true := h
  rw [Bool.and_eq_true, decide_eq_true_eq] at h2
  exact h2
theorem op_inTDK (hK : X.K = K) (hu : X.A.units + 66 < cLine) : OpR X (compareOp .In) (rInTD K false) := by
  subst hK
  intro pins s σ H x y v u Q I rx ry h
  obtain ⟨d, ds, hd, he, sd, se, q⟩ := h
  obtain ⟨as, r1⟩ := Dp.reads I d x v hd rx
  obtain ⟨bs, r2⟩ := Dp.reads I (.tuple ds) y u he ry
  have l2 := shaped_lay sd
  exact SeqAt.in_tuple_reads r2 r1 (shaped_lay se).1 l2.1 (by omega) ⟨.bl _, H, I, rfl, q⟩
theorem op_notInTDK (hK : X.K = K) (hu : X.A.units + 66 < cLine) : OpR X (compareOp .NotIn) (rInTD K true) := by
  subst hK
  intro pins s σ H x y v u Q I rx ry h
  obtain ⟨d, ds, hd, he, sd, se, q⟩ := h
  obtain ⟨as, r1⟩ := Dp.reads I d x v hd rx
  obtain ⟨bs, r2⟩ := Dp.reads I (.tuple ds) y u he ry
  have l2 := shaped_lay sd
  exact SeqAt.notIn_tuple_reads r2 r1 (shaped_lay se).1 l2.1 (by omega) ⟨.bl _, H, I, rfl, q⟩
/-- t > u, pairs of ints -/
def rGtT (K : PySem.W.Frag) : R2 := fun x y H Q => ∃ (a b : Addr) (a0 a1 b0 b1 : Int), x = .ref a ∧ y = .ref b ∧ SqT K H a [.int a0, .int a1] ∧ SqT K H b [.int b0, .int b1] ∧ Q (.bl (decide (b0 < a0 ∨ b0 = a0 ∧ b1 < a1))) H
theorem op_gtTK (hK : X.K = K) (hu : X.A.units < cLine) : OpR X (compareOp .Gt) (rGtT K) := by
  subst hK
  intro pins s σ H x y v u Q I rx ry h
  obtain ⟨a, b, a0, a1, b0, b1, rfl, rfl, ha, hb, q⟩ := h
  cases rx
  cases ry
  obtain ⟨i1, r1, p1, _⟩ := I.tuple ha
  obtain ⟨i2, r2, p2, _⟩ := I.tuple hb
  obtain ⟨u0, u1, rfl, ⟨t0, rfl⟩, ⟨t1, rfl⟩⟩ := vals2 r1
  obtain ⟨w0, w1, rfl, ⟨y0, rfl⟩, ⟨y1, rfl⟩⟩ := vals2 r2
  have R := Ob.RcOp.tuples_gt (A := X.A) (s := s) (e := fun j => if j = 0 then a0 == b0 else a1 == b1) (r := fun j => if j = 0 then decide (b0 < a0) else decide (b1 < a1)) p1 p2 hu
    (fun j h1 h2 => match j, h1, h2 with
      | 0, _, _ => SeqAt.EqAt.int_int _ _ _ _
      | 1, _, _ => SeqAt.EqAt.int_int _ _ _ _)
    (fun j h1 h2 _ => match j, h1, h2 with
      | 0, _, _ => Ob.RcOp.gt_int _ _ _ _
      | 1, _, _ => Ob.RcOp.gt_int _ _ _ _)
  have e : Ob.lexAt (fun j => if j = 0 then a0 == b0 else a1 == b1) (fun j => if j = 0 then decide (b0 < a0) else decide (b1 < a1)) (decide ((#[Value.int a0 t0, Value.int a1 t1] : Array Value).size > (#[Value.int b0 y0, Value.int b1 y1] : Array Value).size)) 0 (min (#[Value.int a0 t0, Value.int a1 t1] : Array Value).size (#[Value.int b0 y0, Value.int b1 y1] : Array Value).size) = decide (b0 < a0 ∨ b0 = a0 ∧ b1 < a1) := by
    show (if (a0 == b0) = true then (if (a1 == b1) = true then false else decide (b1 < a1)) else decide (b0 < a0)) = _
    by_cases h0 : a0 = b0
    · by_cases h1 : a1 = b1
      · rw [if_pos (beq_iff_eq.mpr h0), if_pos (beq_iff_eq.mpr h1)]
        exact (decide_eq_false (by omega)).symm
      · rw [if_pos (beq_iff_eq.mpr h0), if_neg (fun h => h1 (beq_iff_eq.mp h))]
        exact decide_eq_decide.mpr (by omega)
    · rw [if_neg (fun h => h0 (beq_iff_eq.mp h))]
      exact decide_eq_decide.mpr (by omega)
  rw [e] at R
  exact R X.prog X.w X.xe (EP X pins σ Q) ⟨.bl _, H, I, rfl, q⟩
/-- sorted(t), t a list or tuple of pairs of points -/
def rSortedSP (K : PySem.W.Frag) : List V → Hp → VK → Prop := fun vs H Q => ∃ (a : Addr) (xs : List V) (ks : List (Nat × Nat)), vs = [V.ref a] ∧ (SqL K H a xs ∨ SqT K H a xs) ∧ Paired (Pr H) xs ks ∧
  ∀ (us : List V) (ys : List (Nat × Nat)) (p : Addr), ys.Perm ks → ys.Pairwise (fun a b => ¬ ltP b a) → Paired (Pr H) us ys → H p = none → Q (.ref p) (upd H p (.lst us))
theorem refs_of {H : Hp} : ∀ {xs : List V} {ks : List (Nat × Nat)} {us : List Value}, Paired (Pr H) xs ks → Vals xs us → ∀ u ∈ us, ∃ (t : Addr) (k : Nat × Nat), u = Value.ref t ∧ H t = some (.tup [pI k.1, pI k.2])
  | _, _, _, .nil, .nil, u, hu => by cases hu
  | _, _, _, .cons ⟨t, e, h⟩ r, .cons r1 r2, u, hu => by
    rcases List.mem_cons.mp hu with rfl | hu
    · subst e
      cases r1
      exact ⟨t, _, rfl, h⟩
    · exact refs_of r r2 u hu
theorem keys_of {H : Hp} : ∀ {xs : List V} {ks : List (Nat × Nat)} {us : List Value}, Paired (Pr H) xs ks → Vals xs us → (us.map adr).map (pk H) = ks
  | _, _, _, .nil, .nil => rfl
  | _, _, _, .cons ⟨t, e, h⟩ r, .cons r1 r2 => by
    subst e
    cases r1
    rw [List.map_cons, List.map_cons, keys_of r r2]
    congr 1
    exact pk_of h
theorem cr_sortedSP {X : Cx} {K : PySem.W.Frag} (hK : X.K = K) : CallR X (.builtin "sorted") (rSortedSP K) := by
  subst hK
  intro pins s σ H vs us Q I r h
  obtain ⟨a, xs, ks, rfl, hs, hpr0, q⟩ := h
  obtain ⟨u, rfl, rx⟩ := vals1 r
  cases rx
  obtain ⟨its, rv, T, o, n, hT, ho, hc, hd, hz⟩ : ∃ (its : List Value), Vals xs its ∧ ∃ (T : String) (o : Obj) (n : Nat), (T = "list" ∨ T = "tuple") ∧ s.heap.get? a = some o ∧ o.cls = .type T ∧ o.data = .seq its.toArray n ∧ xs.length ≤ sizeLine := by
    rcases hs with hs | hs
    · obtain ⟨its, rv, pl, hz⟩ := I.list hs
      obtain ⟨o, ho, hc, n, hd⟩ := pl.isList
      exact ⟨its, rv, _, o, n, .inl rfl, ho, hc, hd, hz⟩
    · obtain ⟨its, rv, ⟨o, ho, hc, n, hd⟩, hz⟩ := I.tuple hs
      exact ⟨its, rv, _, o, n, .inr rfl, ho, hc, hd, hz⟩
  have hil : its.length ≤ sizeLine := by rw [← rv.length]; exact hz
  refine Calls.call_function_entry PyProof.Rows.kind_sorted PyProof.Rows.plain_sorted PyProof.Rows.entry_sorted (PyProof.Rows.args_sorted1 _) ?_
  unfold Builtin.«sorted»
  refine wpAny_bind (m := checkCount "sorted" 1 1 _) (wpAny_pure ?_)
  refine wpAny_bind (wpAny_collect_seq a hT ho hc hd (hsz := by simpa using hil) fun h' hk => ?_)
  rw [show its.toArray.toList = its from rfl]
  have I1 : Inv X pins σ H { s with heap := h' } := I.kept (t' := s.toks) hk
  refine wpAny_bind (wpAny_newList ?_ hil)
  have hoL : (h'.push (seqObj "list" its.toArray 0)).get? h'.objs.size = some (seqObj "list" its.toArray 0) := Heap.get?_push_size _ rfl
  have hxs := refs_of hpr0 rv
  have hp : ∀ v ∈ its, Srt.IsPair (h'.push (seqObj "list" its.toArray 0)) v (pkI H (adr v)).1 (pkI H (adr v)).2 := fun v hv => by
    obtain ⟨t, k, rfl, ht⟩ := hxs v hv
    obtain ⟨_, its2, r2, o, ho, hc, n, hd⟩ := I1.hok _ _ ht
    obtain ⟨u1, u2, rfl, ⟨t1, rfl⟩, ⟨t2, rfl⟩⟩ := vals2 r2
    show Srt.IsPair _ _ (pkI H t).1 (pkI H t).2
    rw [pkI_of ht]
    exact ⟨t, o, t1, t2, n, rfl, Heap.get?_push_of_some _ ho, hc, hd⟩
  show wpAny _ _ _ _ _ { s with heap := h'.push (seqObj "list" its.toArray 0) }
  have hsort : ∀ out, SrtO.Srtd (fun v u => SrtO.lexB (pkI H (adr v)) (pkI H (adr u))) out → SrtO.Stb (fun v u => SrtO.lexB (pkI H (adr v)) (pkI H (adr u))) out its → True := fun _ _ _ => trivial
  refine wpAny_bind (wpAny_holding (wpAny_call_entry PyProof.Rows.slot_list_sort ⟨_, hoL, rfl⟩ PyProof.Rows.entry_list_sort
    (SrtO.list_sort_ord (s := { s with heap := h'.push (seqObj "list" its.toArray 0) }) (SrtO.swo_lex fun u => pkI H (adr u)) hoL hil (fun h2 => SrtO.pairs_sortableO (by omega) hp fun o e => ?_) fun out h1 h2 => ⟨_, rfl, ?_⟩) (PyProof.Rows.args_list_sort _)))
  · have e' : some o = some (seqObj "list" its.toArray 0) := e.symm.trans hoL
    cases e'
    intro c
    exact absurd (Value.type.inj c) (by decide)
  · obtain ⟨e', he'⟩ := PyProof.Rows.sortedHeap_at (vs := its) (out := out.toArray) hoL
    have hout : ∀ u ∈ out, ∃ (t : Addr) (k : Nat × Nat), u = Value.ref t ∧ H t = some (.tup [pI k.1, pI k.2]) := fun u hu => hxs u (h2.perm.mem_iff.mp hu)
    have ebs : (out.map adr).map Value.ref = out := by
      rw [List.map_map]
      refine (List.map_congr_left fun u hu => ?_).trans (List.map_id _)
      obtain ⟨t, k, rfl, _⟩ := hout u hu
      rfl
    have hpr : Paired (Pr H) ((out.map adr).map V.ref) ((out.map adr).map (pk H)) := pMapL _ _ _ fun t ht => by
      obtain ⟨u, hu, rfl⟩ := List.mem_map.mp ht
      obtain ⟨t, k, rfl, hk2⟩ := hout u hu
      exact ⟨t, rfl, by rw [show adr (.ref t) = t from rfl, pk_of hk2]; exact hk2⟩
    have hperm : ((out.map adr).map (pk H)).Perm ks := by
      rw [← keys_of hpr0 rv]
      exact (h2.perm.map adr).map (pk H)
    have hsrt : ((out.map adr).map (pk H)).Pairwise (fun a b => ¬ ltP b a) := by
      rw [List.pairwise_map, List.pairwise_map]
      refine List.Pairwise.imp_of_mem (fun {u v} hu hv e => ?_) h1
      obtain ⟨t, k, rfl, hk2⟩ := hout u hu
      obtain ⟨t', k', rfl, hk3⟩ := hout v hv
      have e : SrtO.lexB (pkI H t') (pkI H t) = false := e
      show ¬ ltP (pk H t') (pk H t)
      rw [pk_of hk2, pk_of hk3]
      rw [pkI_of hk2, pkI_of hk3] at e
      have e2 := SrtO.lexB_no.mp e
      unfold ltP
      intro c
      exact e2 (show ((k'.1 : Int) < k.1 ∨ (k'.1 : Int) = k.1 ∧ (k'.2 : Int) < k.2) by omega)
    have hlen : ((out.map adr).map V.ref).length ≤ sizeLine := by
      rw [List.length_map, List.length_map, h2.len]
      exact hil
    have hv : Vals ((out.map adr).map V.ref) out := by
      have := vals_refs (out.map adr)
      rwa [ebs] at this
    have new : ObjOk X.prog X.w (upd H h'.objs.size (.lst ((out.map adr).map V.ref))) (sortedHeap (h'.push (seqObj "list" its.toArray 0)) h'.objs.size its out.toArray) h'.objs.size (.lst ((out.map adr).map V.ref)) := ⟨hlen, out, e', hv, he'⟩
    refine wpAny_pure ⟨_, rfl, .ref h'.objs.size, upd H h'.objs.size (.lst ((out.map adr).map V.ref)), I1.laid (t' := s.toks) (fun b u e => ?_) (Nat.le_refl _) new, rfl, q _ _ _ hperm hsrt hpr (I1.hok.fresh (Nat.le_refl _))⟩
    have hb : b < h'.objs.size := Heap.lt_size e
    rw [PyProof.Rows.sortedHeap_old (Nat.ne_of_lt hb) (by rw [size_push']; exact Nat.lt_succ_of_lt hb)]
    exact Heap.get?_push_of_some _ e
end
end Ns

/-! Own layer I: enumerate over a tuple. -/
namespace PySem
open Sem (wp)
open Builtin
open AutoSeq1 (wpAny_loadPart')
set_option maxHeartbeats 1000000 in
theorem meets_enum_newT (l : Addr) (o : Obj) (items : Array Value) (n : Nat) (hc : o.cls = .type "tuple") (hd : o.data = .seq items n) :
    Meets (Builtin.«enumerate.__new__» ⟨[.type "enumerate", .ref l], []⟩) (fun _ R s => s.heap.get? l = some o ∧
      R (.ok (.ret (.ref (s.heap.push { cls := .type "tuple_iterator", data := .fields #[.ref l, .int 0 0] }).objs.size)))
        { s with heap := (s.heap.push { cls := .type "tuple_iterator", data := .fields #[.ref l, .int 0 0] }).push { cls := .type "enumerate", data := .fields #[.none, .bool false, .ref s.heap.objs.size, rawInt 0, .none, .none] } }) :=
  .of_wp fun prog w A R s h => by
    obtain ⟨hp, g, d, tk, os⟩ := s
    obtain ⟨hl, h⟩ := h
    have hsub := sub_enumerate
    have hL : Heap.IsTuple (Shared.heap ⟨hp, g, d, tk, os⟩) l items := ⟨_, hl, hc, n, hd⟩
    wp_walk using wpAny_loadPart' hl
    refine wpAny_stack_any fun st => wpAny_pure ?_
    split
    · rename_i c _ _ _ _ _
      cases (c == Value.type "enumerate")
      · wp_walk using wpAny_loadPart' hl, wpAny_pyIter_tuple hL
        exact ⟨_, rfl, h⟩
      · wp_walk using wpAny_loadPart' hl, wpAny_pyIter_tuple hL
        exact ⟨_, rfl, h⟩
    · wp_walk using wpAny_loadPart' hl, wpAny_pyIter_tuple hL
      exact ⟨_, rfl, h⟩
section
variable {prog : Program} {w : World} {A : Around} {E : Value → Shared → Prop} {s : Shared}
theorem call_enumT {l : Addr} {items : Array Value} {Q : Value → Shared → Prop} (hL : s.heap.IsTuple l items)
    (h : ∀ h', IsEnum h' (s.heap.objs.size + 1) s.heap.objs.size 0 .none → h'.IsTupleIter s.heap.objs.size l 0 →
      (∀ b o, s.heap.get? b = some o → h'.get? b = some o) → Q (.ref (s.heap.objs.size + 1)) { s with heap := h' }) :
    wpAny (model prog w) A (call (.type "enumerate") [.ref l]) Q E s := by
  obtain ⟨o, hl, hc, n, hd⟩ := hL
  refine callType_new F.called_enumerate (by decide) (F.typeCall_enumerate_1 _) (F.newCall_enumerate_1 _)
    (fun obj => F.args_object_init_2 obj _) F.entry_enumerate_new (meets_enum_newT l o items n hc hd) ⟨hl, ?_⟩
  have hz : (s.heap.push { cls := .type "tuple_iterator", data := .fields #[.ref l, .int 0 0] }).objs.size = s.heap.objs.size + 1 := Heap.size_push ..
  show _ ∧ _
  rw [hz]
  have he : IsEnum ((s.heap.push { cls := .type "tuple_iterator", data := .fields #[.ref l, .int 0 0] }).push
      { cls := .type "enumerate", data := .fields #[.none, .bool false, .ref s.heap.objs.size, rawInt 0, .none, .none] }) (s.heap.objs.size + 1) s.heap.objs.size 0 .none := by
    have z := Heap.get?_push_size (s.heap.push { cls := .type "tuple_iterator", data := .fields #[.ref l, .int 0 0] })
      (o := { cls := .type "enumerate", data := .fields #[.none, .bool false, .ref s.heap.objs.size, rawInt 0, .none, .none] }) rfl
    rw [hz] at z
    exact z
  exact ⟨⟨_, he, rfl⟩, h _ he ⟨_, Heap.get?_push_of_some _ (Heap.get?_push_size _ rfl), rfl, rfl⟩ fun b o x => Heap.get?_push_of_some _ (Heap.get?_push_of_some _ x)⟩
end
end PySem
namespace Ns
open PySem PySem.Spec PyProof.Rows L2
/-- the tuple at a, each item in a new pair -/
def IteT (K : PySem.W.Frag) (a : Addr) : It :=
  ⟨fun i H => ∃ (xs : List V) (x : V), SqT K H a xs ∧ xs[i]? = some x, fun i H v H' => ∃ T x, v = .ref T ∧ H T = none ∧ H' = upd H T (.tup [.int (i : Nat), x]) ∧ ∀ xs, SqT K H a xs → xs[i]? = some x, fun i H => ∃ xs : List V, SqT K H a xs ∧ xs.length ≤ i⟩
theorem tuple_ne {h : Heap} {a b : Addr} {o : Obj} {its : Array Value} (t : h.IsTuple a its) (e : h.get? b = some o) (n : o.cls ≠ .type "tuple") : a ≠ b := by
  obtain ⟨o', ho, hc, _⟩ := t
  intro z
  rw [z, e] at ho
  cases ho
  exact n hc
theorem turn_enumT {P : Program} {w : World} {K : PySem.W.Frag} {elts : List Expr} {kk : Nat} {tpos : Pos} (a e it : Addr) :
    Turn P w K (.Tuple elts kk tpos) (IteT K a) [e, it] e (fun i h => (∃ old, IsEnum h e it ((i : Nat) : Int) old) ∧ h.IsTupleIter it a i ∧ e ≠ it) where
  mem := by simp
  obj := fun i h st b hb => by
    obtain ⟨⟨old, he⟩, ⟨o, ho, hc, hd⟩, _⟩ := st
    have e' : b = e ∨ b = it := by simpa using hb
    rcases e' with z | z
    · rw [z]; exact ⟨_, he, fun v q => nomatch q⟩
    · rw [z]; exact ⟨o, ho, fun v q => by rw [hd] at q; cases q⟩
  keep := fun i h h' st k => by
    obtain ⟨⟨old, he⟩, hi, hne⟩ := st
    exact ⟨⟨old, k e (by simp) _ he⟩, hi.at (fun o q => k it (by simp) o q), hne⟩
  item := by
    intro X hP hw hK hc i pins s σ H E I hf st hg
    subst hP hw hK
    obtain ⟨⟨old, he⟩, hit, hne⟩ := st
    obtain ⟨xs, x, hq, hx⟩ := hg
    obtain ⟨its, rv, p, hz⟩ := I.tuple hq
    have p : s.heap.IsTuple a its.toArray := p
    obtain ⟨u, hu, ru⟩ := rv.get hx
    have hel : e < s.heap.objs.size := Heap.lt_size he
    obtain ⟨oi, hoi, hci, _⟩ := id hit
    have hil : it < s.heap.objs.size := Heap.lt_size hoi
    have ne1 : a ≠ it := tuple_ne p hoi (by rw [hci]; decide)
    have ne2 : a ≠ e := tuple_ne p he (by intro z; exact absurd (Value.type.inj z) (by decide))
    refine wpAny_pyNext_enum_itemD (Draws.tuple (A := X.A.in1) (I.ok.hd hc) it a ne1 its.toArray) he ⟨hit, p⟩ ?_ hne ?_ ?_
    · have := (List.getElem?_eq_some_iff.mp hu).1
      simpa using this
    · simp only [List.mem_cons, List.not_mem_nil, or_false, not_or]
      exact ⟨hne, ne2.symm⟩
    · intro y h' tk hy ho hst' hT hsz hk
      have ey : y = u := by
        have h1 : its[i]? = some y := by simpa using hy
        rw [hu] at h1
        exact (Option.some.inj h1).symm
      subst ey
      refine ⟨_, rfl, wpAny_letOwnedTupleGo_enum (s := { s with heap := h', toks := tk + 1 }) ho fun h'' he' sb => ?_⟩
      have hT2 : h''.get? s.heap.objs.size = some { cls := .type "tuple", data := .seq #[.int i tk, y] } := (sb.2 _ (Nat.ne_of_gt hel)).trans hT
      have new : ObjOk X.prog X.w (upd H s.heap.objs.size (.tup [.int (i : Nat), x])) h'' s.heap.objs.size (.tup [.int (i : Nat), x]) :=
        ⟨by show 2 ≤ sizeLine; decide, [.int i tk, y], .cons ⟨_, rfl⟩ (.cons ru .nil), ⟨_, hT2, rfl, _, rfl⟩⟩
      have I1 : Inv X pins σ (upd H s.heap.objs.size (.tup [.int (i : Nat), x])) { s with heap := h'', toks := tk + 1 } := by
        refine I.turnedNew (ch := [e, it]) (fun b ob hb q => ?_) hf (Nat.le_refl _) new
        have n1 : b ≠ e := fun z => hb (by simp [z])
        have n2 : b ≠ it := fun z => hb (by simp [z])
        exact (sb.2 b n1).trans (hk b ob n1 n2 q)
      refine ⟨.ref s.heap.objs.size, _, I1, rfl, ⟨_, x, rfl, I.hok.fresh (Nat.le_refl _), rfl, fun ys hy => by rw [I.tuple_inj hy hq]; exact hx⟩, ⟨⟨y, ?_⟩, hst'.1.at (fun o q => (sb.2 it (Ne.symm hne)).trans q), hne⟩, fun b hb => ?_⟩
      · have e1 : ((i + 1 : Nat) : Int) = (i : Int) + 1 := by omega
        rw [e1]
        exact he'
      · have hb' : b < s.heap.objs.size := by
          have e' : b = e ∨ b = it := by simpa using hb
          rcases e' with z | z
          · rw [z]; exact hel
          · rw [z]; exact hil
        rw [upd_ne (Nat.ne_of_lt hb')]
        exact (hf b hb).1
  done := by
    intro X hP hw hK hc i pins s σ H E I hf st hg
    subst hP hw hK
    obtain ⟨⟨old, he⟩, hit, hne⟩ := st
    obtain ⟨xs, hq, hx⟩ := hg
    obtain ⟨its, rv, p, hz⟩ := I.tuple hq
    have p : s.heap.IsTuple a its.toArray := p
    obtain ⟨f0, f1, f2, f3, f4, f5⟩ := hf it (by simp)
    have hl := rv.length
    obtain ⟨oi, hoi, hci, _⟩ := id hit
    have ne1 : a ≠ it := tuple_ne p hoi (by rw [hci]; decide)
    have D : Draws X.prog X.w X.A.in1 it [it, a] 0 (fun _ _ => True) (fun _ h => h.IsTupleIter it a i ∧ h.IsTuple a its.toArray) := by
      refine ⟨fun j h st => ?_, fun j h h' st hk => ?_, fun j s' Q E' hj st hQ => absurd hj (Nat.not_lt_zero j), fun s' Q E' st hE => ?_⟩
      · obtain ⟨o, ho, _⟩ := st.1
        exact ⟨o, ho⟩
      · exact ⟨st.1.at fun o e => hk it (by simp) o e, st.2.at fun o e => hk a (by simp) o e⟩
      · exact wpAny_nextOf_tuple_end (I.ok.hd hc) st.1 st.2 (by simp; omega) hE
    exact wpAny_pyNext_enum_endD D he ⟨hit, p⟩ fun h' eb => ⟨rfl, I.turned (t' := s.toks) (fun b o hb q => eb b o hb q) f0 f1 f3 f4 f5⟩
  self := fun A i s Q E st h => by
    obtain ⟨⟨_, he⟩, _⟩ := st
    exact wpAny_pyIter_enum he h
def iEnumT (K : PySem.W.Frag) (ta : TA) : TI := fun σ H R => ta σ H fun vs H1 => ∃ a xs, vs = [.ref a] ∧ SqT K H1 a xs ∧ R (IteT K a) H1
theorem pi_enumTK {X : Cx} {K : PySem.W.Frag} {e : Expr} {ta : TA} {p pos tpos : Pos} {elts : List Expr} {kk : Nat} (hK : X.K = K) (hg : Gl X "enumerate") (hm : X.mg "enumerate" = none) (ha : PA X [e] ta) (hs : starEach [e] X.env = [(false, eval e X.env)] := by rfl) :
    PI X (.Tuple elts kk tpos) (.Call (.Name "enumerate" p) [e] [] pos) (iEnumT K ta) := by
  subst hK
  refine ⟨fun pins s σ H R I h => ?_⟩
  refine Call_ (ld_blt I hg hm boot_enumerate (PyProof.Rows.callWith_type1 (thn (ha.run pos pins s σ H _ I h) fun us s1 ⟨vs, H1, I1, r1, q1⟩ => ?_) hs rfl))
  obtain ⟨a, xs, ex, hq, q⟩ := q1
  subst ex
  cases r1 with
  | cons r rr =>
    cases rr
    cases r
    obtain ⟨its, rv, p', hz⟩ := I1.tuple hq
    refine call_enumT (show s1.heap.IsTuple a its.toArray from p') fun h' he hit hk => wpAny_pyIter_enum he ?_
    have I2 : Inv X pins σ H1 { s1 with heap := h' } := I1.kept (t' := s1.toks) hk
    refine ⟨s1.heap.objs.size + 1, [s1.heap.objs.size + 1, s1.heap.objs.size], _, _, H1, rfl, I2, turn_enumT a (s1.heap.objs.size + 1) s1.heap.objs.size, ⟨⟨.none, he⟩, hit, Nat.succ_ne_self _⟩, fun b hb => ?_, q⟩
    have hle : s1.heap.objs.size ≤ b := by
      have e' : b = s1.heap.objs.size + 1 ∨ b = s1.heap.objs.size := by simpa using hb
      rcases e' with z | z
      · rw [z]; exact Nat.le_add_right _ _
      · rw [z]; exact Nat.le_refl _
    exact I1.fpOk hle (I1.hok.fresh hle)
theorem walk_enumT {K : PySem.W.Frag} {a : Addr} {xs : List V} : Walk (IteT K a) xs.length (fun H => SqT K H a xs) (YPair (fun i => some (.int (i : Nat))) (fun i => xs[i]?)) := by
  refine ⟨fun i _ hi q => ⟨xs, xs[i], q, by simp [hi]⟩, fun _ q => ⟨xs, q, Nat.le_refl _⟩, fun i H v H' _ q y => ?_⟩
  obtain ⟨T, x, h1, h2, h3, h4⟩ := y
  exact ⟨T, .int (i : Nat), x, h1, h2, h3, rfl, h4 xs q⟩
end Ns

/-! Own layer: places of four kinds, pairs turned, in plain Lean. -/
namespace Ns
open PySem PySem.Spec PyProof.Rows L2
inductive Kd where
  | threshold
  | nested
  | cograph
  | split
  deriving DecidableEq
structure SymT (n : Nat) (T : Tm) : Prop where
  sym : ∀ i j, i < n → j < n → T i j = T j i
  irr : ∀ i, i < n → T i i = false
def fifth (n : Nat) (T : Tm) (a b c d : Nat) : Bool := (List.range n).any fun e => T a e && T d e && !T b e && !T c e
def placeAt (n : Nat) (kd : Kd) (T : Tm) (a b c d : Nat) : Bool := (T a b && T c d && !T b d) && (match kd with
  | .threshold => !T a c
  | .nested => T b c && !T a c
  | .cograph => T b c && !T a c && !T a d
  | .split => (T b c == T a d && !T a c) || (T b c && !T a c && !T a d && fifth n T a b c d))
def Four (n a b c d : Nat) : Prop := (a < n ∧ b < n ∧ c < n ∧ d < n) ∧ a ≠ b ∧ a ≠ c ∧ a ≠ d ∧ b ≠ c ∧ b ≠ d ∧ c ≠ d
def Has (n : Nat) (kd : Kd) (T : Tm) : Prop := ∃ a b c d, Four n a b c d ∧ placeAt n kd T a b c d = true
theorem fifth_iff {n : Nat} {T : Tm} {a b c d : Nat} : fifth n T a b c d = true ↔ ∃ e, e < n ∧ T a e = true ∧ T d e = true ∧ T b e = false ∧ T c e = false := by
  unfold fifth
  rw [List.any_eq_true]
  constructor
  · rintro ⟨e, he, h⟩
    simp only [Bool.and_eq_true, Bool.not_eq_true'] at h
    exact ⟨e, List.mem_range.mp he, h.1.1.1, h.1.1.2, h.1.2, h.2⟩
  · rintro ⟨e, he, h1, h2, h3, h4⟩
    exact ⟨e, List.mem_range.mpr he, by rw [h1, h2, h3, h4]; rfl⟩
theorem Has.congr {n : Nat} {kd : Kd} {T T' : Tm} (h : ∀ i j, i < n → j < n → T i j = T' i j) (x : Has n kd T) : Has n kd T' := by
  obtain ⟨a, b, c, d, f, p⟩ := x
  refine ⟨a, b, c, d, f, ?_⟩
  obtain ⟨⟨ha, hb, hc, hd⟩, _⟩ := f
  have ef : fifth n T a b c d = fifth n T' a b c d := by
    rw [Bool.eq_iff_iff, fifth_iff, fifth_iff]
    constructor
    · rintro ⟨e, he, h1, h2, h3, h4⟩
      exact ⟨e, he, by rw [← h a e ha he]; exact h1, by rw [← h d e hd he]; exact h2, by rw [← h b e hb he]; exact h3, by rw [← h c e hc he]; exact h4⟩
    · rintro ⟨e, he, h1, h2, h3, h4⟩
      exact ⟨e, he, by rw [h a e ha he]; exact h1, by rw [h d e hd he]; exact h2, by rw [h b e hb he]; exact h3, by rw [h c e hc he]; exact h4⟩
  unfold placeAt at p ⊢
  rw [← ef, ← h a b ha hb, ← h c d hc hd, ← h b d hb hd, ← h a c ha hc, ← h b c hb hc, ← h a d ha hd]
  exact p
/-- a list of pairs that shows a place: whatever agrees with T on them has one -/
def Wit (n : Nat) (kd : Kd) (T : Tm) (L : List (Nat × Nat)) : Prop := (∀ p ∈ L, p.1 < n ∧ p.2 < n ∧ p.1 ≠ p.2) ∧ ∀ T', SymT n T' → (∀ p ∈ L, T' p.1 p.2 = T p.1 p.2) → Has n kd T'
def onlyL (n : Nat) (T : Tm) (x y : Nat) : List Nat := (List.range n).filter fun z => decide (z ≠ y) && T x z && !T y z
theorem mem_onlyL {n : Nat} {T : Tm} {x y z : Nat} : z ∈ onlyL n T x y ↔ z < n ∧ z ≠ y ∧ T x z = true ∧ T y z = false := by
  unfold onlyL
  rw [List.mem_filter, List.mem_range, Bool.and_eq_true, Bool.and_eq_true, decide_eq_true_eq, Bool.not_eq_true']
  exact ⟨fun ⟨a, ⟨b, c⟩, d⟩ => ⟨a, b, c, d⟩, fun ⟨a, b, c, d⟩ => ⟨a, ⟨b, c⟩, d⟩⟩
theorem ne_tied {T : Tm} {x u v : Nat} (h1 : T x u = true) (h2 : T x v = false) : u ≠ v := fun e => by rw [e, h2] at h1; cases h1
/-- the four points of two that are tied to unlike others -/
theorem four_of {n : Nat} {T : Tm} (S : SymT n T) {x y u v : Nat} (hx : x < n) (hy : y < n) (hxy : x ≠ y) (hu : u ∈ onlyL n T x y) (hv : v ∈ onlyL n T y x) : Four n u x y v := by
  obtain ⟨u1, u2, u3, u4⟩ := mem_onlyL.mp hu
  obtain ⟨v1, v2, v3, v4⟩ := mem_onlyL.mp hv
  refine ⟨⟨u1, hx, hy, v1⟩, ne_tied u3 (S.irr x hx), u2, ne_tied u3 v4, hxy, v2.symm, fun e => ?_⟩
  rw [e, S.irr v v1] at v3
  cases v3
theorem wit_crossed {n : Nat} {T : Tm} (S : SymT n T) {x y u v : Nat} (hx : x < n) (hy : y < n) (hxy : x ≠ y) (hu : u ∈ onlyL n T x y) (hv : v ∈ onlyL n T y x) : Wit n .threshold T [(x, u), (y, v), (x, v), (y, u)] := by
  have F := four_of S hx hy hxy hu hv
  obtain ⟨u1, u2, u3, u4⟩ := mem_onlyL.mp hu
  obtain ⟨v1, v2, v3, v4⟩ := mem_onlyL.mp hv
  refine ⟨fun p hp => ?_, fun T' S' ag => ⟨u, x, y, v, F, ?_⟩⟩
  · obtain ⟨_, f1, f2, f3, f4, f5, f6⟩ := F
    simp only [List.mem_cons, List.not_mem_nil, or_false] at hp
    rcases hp with rfl | rfl | rfl | rfl
    · exact ⟨hx, u1, f1.symm⟩
    · exact ⟨hy, v1, f6⟩
    · exact ⟨hx, v1, f5⟩
    · exact ⟨hy, u1, f2.symm⟩
  · have a1 := ag (x, u) (by simp)
    have a2 := ag (y, v) (by simp)
    have a3 := ag (x, v) (by simp)
    have a4 := ag (y, u) (by simp)
    dsimp only at a1 a2 a3 a4
    unfold placeAt
    rw [S'.sym u x u1 hx, S'.sym u y u1 hy, a1, a2, a3, a4, u3, u4, v3, v4]
    rfl
theorem wit_nested {n : Nat} {T : Tm} (S : SymT n T) {x y u v : Nat} (hx : x < n) (hy : y < n) (hxy : x ≠ y) (t : T x y = true) (hu : u ∈ onlyL n T x y) (hv : v ∈ onlyL n T y x) : Wit n .nested T [(u, x), (x, y), (y, v), (u, y), (x, v)] := by
  have F := four_of S hx hy hxy hu hv
  obtain ⟨u1, u2, u3, u4⟩ := mem_onlyL.mp hu
  obtain ⟨v1, v2, v3, v4⟩ := mem_onlyL.mp hv
  refine ⟨fun p hp => ?_, fun T' S' ag => ⟨u, x, y, v, F, ?_⟩⟩
  · obtain ⟨_, f1, f2, f3, f4, f5, f6⟩ := F
    simp only [List.mem_cons, List.not_mem_nil, or_false] at hp
    rcases hp with rfl | rfl | rfl | rfl | rfl
    · exact ⟨u1, hx, f1⟩
    · exact ⟨hx, hy, f4⟩
    · exact ⟨hy, v1, f6⟩
    · exact ⟨u1, hy, f2⟩
    · exact ⟨hx, v1, f5⟩
  · have a1 := ag (u, x) (by simp)
    have a2 := ag (x, y) (by simp)
    have a3 := ag (y, v) (by simp)
    have a4 := ag (u, y) (by simp)
    have a5 := ag (x, v) (by simp)
    dsimp only at a1 a2 a3 a4 a5
    unfold placeAt
    rw [a1, a2, a3, a4, a5, S.sym u x u1 hx, S.sym u y u1 hy, u3, u4, v3, v4, t]
    rfl
theorem wit_cograph {n : Nat} {T : Tm} (S : SymT n T) {x y u v : Nat} (hx : x < n) (hy : y < n) (hxy : x ≠ y) (t : T x y = true) (hu : u ∈ onlyL n T x y) (hv : v ∈ onlyL n T y x) (t2 : T u v = false) : Wit n .cograph T [(u, x), (x, y), (y, v), (u, y), (x, v), (u, v)] := by
  have F := four_of S hx hy hxy hu hv
  obtain ⟨u1, u2, u3, u4⟩ := mem_onlyL.mp hu
  obtain ⟨v1, v2, v3, v4⟩ := mem_onlyL.mp hv
  refine ⟨fun p hp => ?_, fun T' S' ag => ⟨u, x, y, v, F, ?_⟩⟩
  · obtain ⟨_, f1, f2, f3, f4, f5, f6⟩ := F
    simp only [List.mem_cons, List.not_mem_nil, or_false] at hp
    rcases hp with rfl | rfl | rfl | rfl | rfl | rfl
    · exact ⟨u1, hx, f1⟩
    · exact ⟨hx, hy, f4⟩
    · exact ⟨hy, v1, f6⟩
    · exact ⟨u1, hy, f2⟩
    · exact ⟨hx, v1, f5⟩
    · exact ⟨u1, v1, f3⟩
  · have a1 := ag (u, x) (by simp)
    have a2 := ag (x, y) (by simp)
    have a3 := ag (y, v) (by simp)
    have a4 := ag (u, y) (by simp)
    have a5 := ag (x, v) (by simp)
    have a6 := ag (u, v) (by simp)
    dsimp only at a1 a2 a3 a4 a5 a6
    unfold placeAt
    rw [a1, a2, a3, a4, a5, a6, S.sym u x u1 hx, S.sym u y u1 hy, u3, u4, v3, v4, t, t2]
    rfl
/-! ### what is told of none -/
theorem none_crossed {n : Nat} {T : Tm} (S : SymT n T) (h : ∀ x y, x < n → y < x → onlyL n T x y = [] ∨ onlyL n T y x = []) : ¬ Has n .threshold T := by
  rintro ⟨a, b, c, d, ⟨⟨ha, hb, hc, hd⟩, ab, ac, ad, bc, bd, cd⟩, p⟩
  unfold placeAt at p
  simp only [Bool.and_eq_true, Bool.not_eq_true'] at p
  obtain ⟨⟨⟨p1, p2⟩, p3⟩, p4⟩ := p
  have h1 : a ∈ onlyL n T b c := mem_onlyL.mpr ⟨ha, ac, by rw [S.sym b a hb ha]; exact p1, by rw [S.sym c a hc ha]; exact p4⟩
  have h2 : d ∈ onlyL n T c b := mem_onlyL.mpr ⟨hd, bd.symm, p2, p3⟩
  rcases Nat.lt_or_gt_of_ne bc with h3 | h3
  · rcases h c b hc h3 with e | e
    · rw [e] at h2; cases h2
    · rw [e] at h1; cases h1
  · rcases h b c hb h3 with e | e
    · rw [e] at h1; cases h1
    · rw [e] at h2; cases h2
theorem none_nested {n : Nat} {T : Tm} (S : SymT n T) (h : ∀ x y, x < n → y < x → T x y = true → ∀ u ∈ onlyL n T x y, ∀ v ∈ onlyL n T y x, False) : ¬ Has n .nested T := by
  rintro ⟨a, b, c, d, ⟨⟨ha, hb, hc, hd⟩, ab, ac, ad, bc, bd, cd⟩, p⟩
  unfold placeAt at p
  simp only [Bool.and_eq_true, Bool.not_eq_true'] at p
  obtain ⟨⟨⟨p1, p2⟩, p3⟩, p4, p5⟩ := p
  have h1 : a ∈ onlyL n T b c := mem_onlyL.mpr ⟨ha, ac, by rw [S.sym b a hb ha]; exact p1, by rw [S.sym c a hc ha]; exact p5⟩
  have h2 : d ∈ onlyL n T c b := mem_onlyL.mpr ⟨hd, bd.symm, p2, p3⟩
  rcases Nat.lt_or_gt_of_ne bc with h3 | h3
  · exact h c b hc h3 (by rw [S.sym c b hc hb]; exact p4) d h2 a h1
  · exact h b c hb h3 p4 a h1 d h2
theorem none_cograph {n : Nat} {T : Tm} (S : SymT n T) (h : ∀ x y, x < n → y < x → T x y = true → ∀ u ∈ onlyL n T x y, ∀ v ∈ onlyL n T y x, T u v = true) : ¬ Has n .cograph T := by
  rintro ⟨a, b, c, d, ⟨⟨ha, hb, hc, hd⟩, ab, ac, ad, bc, bd, cd⟩, p⟩
  unfold placeAt at p
  simp only [Bool.and_eq_true, Bool.not_eq_true'] at p
  obtain ⟨⟨⟨p1, p2⟩, p3⟩, ⟨p4, p5⟩, p6⟩ := p
  have h1 : a ∈ onlyL n T b c := mem_onlyL.mpr ⟨ha, ac, by rw [S.sym b a hb ha]; exact p1, by rw [S.sym c a hc ha]; exact p5⟩
  have h2 : d ∈ onlyL n T c b := mem_onlyL.mpr ⟨hd, bd.symm, p2, p3⟩
  rcases Nat.lt_or_gt_of_ne bc with h3 | h3
  · have := h c b hc h3 (by rw [S.sym c b hc hb]; exact p4) d h2 a h1
    rw [S.sym d a hd ha, p6] at this
    cases this
  · have := h b c hb h3 p4 a h1 d h2
    rw [p6] at this
    cases this
/-! ### company and rest -/
def allP (pts : List Nat) : List (Nat × Nat) := (List.range pts.length).flatMap fun k => (pts.take k).map fun y => (pts.getD k 0, y)
theorem mem_allP {pts : List Nat} {i j : Nat} (h : i < pts.length) (hj : j < i) : (pts.getD i 0, pts.getD j 0) ∈ allP pts := by
  refine List.mem_flatMap.mpr ⟨i, List.mem_range.mpr h, List.mem_map.mpr ⟨pts.getD j 0, ?_, rfl⟩⟩
  rw [List.getD_eq_getElem?_getD, List.getElem?_eq_getElem (by omega)]
  exact List.mem_take_iff_getElem.mpr ⟨j, by omega, rfl⟩
theorem allP_of {pts : List Nat} {p : Nat × Nat} (h : p ∈ allP pts) : ∃ i j, i < pts.length ∧ j < i ∧ p = (pts.getD i 0, pts.getD j 0) := by
  obtain ⟨i, hi, h⟩ := List.mem_flatMap.mp h
  obtain ⟨y, hy, rfl⟩ := List.mem_map.mp h
  have hi := List.mem_range.mp hi
  obtain ⟨j, hj, e⟩ := List.mem_take_iff_getElem.mp hy
  refine ⟨i, j, hi, by omega, ?_⟩
  rw [List.getD_eq_getElem?_getD (i := j), List.getElem?_eq_getElem (by omega), ← e]
  rfl
theorem agree_all {n : Nat} {T T' : Tm} (S : SymT n T) (S' : SymT n T') {pts : List Nat} (hp : ∀ p ∈ pts, p < n) (ag : ∀ p ∈ allP pts, T' p.1 p.2 = T p.1 p.2) {i j : Nat} (hi : i < pts.length) (hj : j < pts.length) :
    T' (pts.getD i 0) (pts.getD j 0) = T (pts.getD i 0) (pts.getD j 0) := by
  have gl : ∀ k, k < pts.length → pts.getD k 0 < n := fun k hk => hp _ (by
    rw [List.getD_eq_getElem?_getD, List.getElem?_eq_getElem hk]
    exact List.getElem_mem hk)
  rcases Nat.lt_trichotomy i j with h | h | h
  · have := ag _ (mem_allP hj h)
    dsimp only at this
    rw [S'.sym _ _ (gl i hi) (gl j hj), S.sym _ _ (gl i hi) (gl j hj)]
    exact this
  · subst h
    rw [S'.irr _ (gl i hi), S.irr _ (gl i hi)]
  · exact ag _ (mem_allP hi h)
theorem allP_in {n : Nat} {pts : List Nat} (hp : ∀ p ∈ pts, p < n) (nd : pts.Nodup) : ∀ p ∈ allP pts, p.1 < n ∧ p.2 < n ∧ p.1 ≠ p.2 := by
  intro p h
  obtain ⟨i, j, hi, hj, rfl⟩ := allP_of h
  have ei : pts.getD i 0 = pts[i] := by rw [List.getD_eq_getElem?_getD, List.getElem?_eq_getElem hi]; rfl
  have ej : pts.getD j 0 = pts[j] := by rw [List.getD_eq_getElem?_getD, List.getElem?_eq_getElem (by omega)]; rfl
  refine ⟨?_, ?_, ?_⟩
  · rw [ei]; exact hp _ (List.getElem_mem hi)
  · rw [ej]; exact hp _ (List.getElem_mem _)
  · rw [ei, ej]
    intro e
    have := (List.getElem_inj nd).mp e
    omega
/-- two points tied (or not), two others with no (or all) ties to them, tied (or not) -/
theorem wit_split4 {n : Nat} {T : Tm} (S : SymT n T) {st : Bool} {x y u v : Nat} (hx : x < n) (hy : y < n) (hu : u < n) (hv : v < n) (nd : [x, y, u, v].Nodup)
    (t1 : T x y = st) (t2 : T x u ≠ st) (t3 : T y u ≠ st) (t4 : T x v ≠ st) (t5 : T y v ≠ st) (t6 : T u v = st) : Wit n .split T (allP [x, y, u, v]) := by
  have hp : ∀ p ∈ [x, y, u, v], p < n := by
    intro p hp
    simp only [List.mem_cons, List.not_mem_nil, or_false] at hp
    rcases hp with rfl | rfl | rfl | rfl <;> assumption
  refine ⟨allP_in hp nd, fun T' S' ag => ?_⟩
  have g := fun i j hi hj => agree_all S S' hp ag (i := i) (j := j) hi hj
  have a1 : T' x y = T x y := g 0 1 (by simp) (by simp)
  have a2 : T' x u = T x u := g 0 2 (by simp) (by simp)
  have a3 : T' y u = T y u := g 1 2 (by simp) (by simp)
  have a4 : T' x v = T x v := g 0 3 (by simp) (by simp)
  have a5 : T' y v = T y v := g 1 3 (by simp) (by simp)
  have a6 : T' u v = T u v := g 2 3 (by simp) (by simp)
  have b4 : T' v x = T x v := by rw [S'.sym v x hv hx, a4]
  have b3 : T' u y = T y u := by rw [S'.sym u y hu hy, a3]
  have b6 : T' v u = T u v := by rw [S'.sym v u hv hu, a6]
  simp only [List.nodup_cons, List.mem_cons, List.not_mem_nil, or_false, not_or, List.nodup_nil, and_true, not_false_eq_true] at nd
  obtain ⟨⟨n1, n2, n3⟩, ⟨n4, n5⟩, n6⟩ := nd
  cases st with
  | true =>
    have t2 : T x u = false := by simpa using t2
    have t3 : T y u = false := by simpa using t3
    have t4 : T x v = false := by simpa using t4
    have t5 : T y v = false := by simpa using t5
    refine ⟨x, y, u, v, ⟨⟨hx, hy, hu, hv⟩, n1, n2, n3, n4, n5, n6⟩, ?_⟩
    unfold placeAt
    dsimp only
    rw [a1, a2, a3, a4, a5, a6, t1, t2, t3, t4, t5, t6]
    rfl
  | false =>
    have t2 : T x u = true := by simpa using t2
    have t3 : T y u = true := by simpa using t3
    have t4 : T x v = true := by simpa using t4
    have t5 : T y v = true := by simpa using t5
    -- x u y v: xu, uy, yv, vx tied; xy, uv not
    refine ⟨x, u, y, v, ⟨⟨hx, hu, hy, hv⟩, n2, n1, n3, fun e => n4 e.symm, n6, n5⟩, ?_⟩
    unfold placeAt
    dsimp only
    rw [a1, a2, b3, a4, a5, a6, t1, t2, t3, t4, t5, t6]
    rfl
theorem wit_split5 {n : Nat} {T : Tm} (S : SymT n T) {x y u v e : Nat} (hx : x < n) (hy : y < n) (hxy : x ≠ y) (t : T x y = true) (hu : u ∈ onlyL n T x y) (hv : v ∈ onlyL n T y x) (t2 : T u v = false)
    (he : e < n) (e1 : T u e = true) (e2 : T v e = true) (e3 : T x e = false) (e4 : T y e = false) : Wit n .split T (allP [x, y, u, v, e]) := by
  have F := four_of S hx hy hxy hu hv
  obtain ⟨u1, u2, u3, u4⟩ := mem_onlyL.mp hu
  obtain ⟨v1, v2, v3, v4⟩ := mem_onlyL.mp hv
  have hp : ∀ p ∈ [x, y, u, v, e], p < n := by
    intro p hp
    simp only [List.mem_cons, List.not_mem_nil, or_false] at hp
    rcases hp with rfl | rfl | rfl | rfl | rfl <;> assumption
  obtain ⟨_, f1, f2, f3, f4, f5, f6⟩ := F
  have ex : x ≠ e := fun h => by rw [← h, S.sym v x v1 hx, v4] at e2; cases e2
  have ey : y ≠ e := fun h => by rw [← h, S.sym u y u1 hy, u4] at e1; cases e1
  have eu : u ≠ e := fun h => by rw [← h, S.irr u u1] at e1; cases e1
  have ev : v ≠ e := fun h => by rw [← h, S.irr v v1] at e2; cases e2
  have nd : [x, y, u, v, e].Nodup := by
    simp only [List.nodup_cons, List.mem_cons, List.not_mem_nil, or_false, not_or, List.nodup_nil, and_true, not_false_eq_true]
    exact ⟨⟨f4, f1.symm, f5, ex⟩, ⟨f2.symm, f6, ey⟩, ⟨f3, eu⟩, ev⟩
  refine ⟨allP_in hp nd, fun T' S' ag => ?_⟩
  have g := fun i j hi hj => agree_all S S' hp ag (i := i) (j := j) hi hj
  have a1 : T' x y = T x y := g 0 1 (by simp) (by simp)
  have a2 : T' u x = T u x := g 2 0 (by simp) (by simp)
  have a3 : T' u y = T u y := g 2 1 (by simp) (by simp)
  have a4 : T' x v = T x v := g 0 3 (by simp) (by simp)
  have a5 : T' y v = T y v := g 1 3 (by simp) (by simp)
  have a6 : T' u v = T u v := g 2 3 (by simp) (by simp)
  have a7 : T' u e = T u e := g 2 4 (by simp) (by simp)
  have a8 : T' v e = T v e := g 3 4 (by simp) (by simp)
  have a9 : T' x e = T x e := g 0 4 (by simp) (by simp)
  have a0 : T' y e = T y e := g 1 4 (by simp) (by simp)
  refine ⟨u, x, y, v, four_of S hx hy hxy hu hv, ?_⟩
  have f : fifth n T' u x y v = true := fifth_iff.mpr ⟨e, he, by rw [a7]; exact e1, by rw [a8]; exact e2, by rw [a9]; exact e3, by rw [a0]; exact e4⟩
  unfold placeAt
  dsimp only
  rw [f, a1, a2, a3, a4, a5, a6, S.sym u x u1 hx, S.sym u y u1 hy, u3, u4, v3, v4, t, t2]
  rfl
theorem none_split {n : Nat} {T : Tm} (S : SymT n T)
    (h : ∀ st x y, x < n → y < x → T x y = st → ∀ u v, u < n → v < n → u < v → u ≠ x → u ≠ y → v ≠ x → v ≠ y → T x u ≠ st → T y u ≠ st → T x v ≠ st → T y v ≠ st → T u v ≠ st)
    (h5 : ∀ x y, x < n → y < x → T x y = true → ∀ u ∈ onlyL n T x y, ∀ v ∈ onlyL n T y x, T u v = false → ∀ e, e < n → T u e = true → T v e = true → T x e = false → T y e = false → False) : ¬ Has n .split T := by
  have h2 : ∀ st x y, x < n → y < n → x ≠ y → T x y = st → ∀ u v, u < n → v < n → u ≠ v → u ≠ x → u ≠ y → v ≠ x → v ≠ y → T x u ≠ st → T y u ≠ st → T x v ≠ st → T y v ≠ st → T u v ≠ st := by
    intro st x y hx hy hxy t u v hu hv huv n1 n2 n3 n4 t1 t2 t3 t4
    rcases Nat.lt_or_gt_of_ne hxy with g | g <;> rcases Nat.lt_or_gt_of_ne huv with k | k
    · exact h st y x hy g (by rw [S.sym y x hy hx]; exact t) u v hu hv k n2 n1 n4 n3 t2 t1 t4 t3
    · rw [S.sym u v hu hv]
      exact h st y x hy g (by rw [S.sym y x hy hx]; exact t) v u hv hu k n4 n3 n2 n1 t4 t3 t2 t1
    · exact h st x y hx g t u v hu hv k n1 n2 n3 n4 t1 t2 t3 t4
    · rw [S.sym u v hu hv]
      exact h st x y hx g t v u hv hu k n3 n4 n1 n2 t3 t4 t1 t2
  rintro ⟨a, b, c, d, ⟨⟨ha, hb, hc, hd⟩, ab, ac, ad, bc, bd, cd⟩, p⟩
  unfold placeAt at p
  simp only [Bool.and_eq_true, Bool.not_eq_true', Bool.or_eq_true, beq_iff_eq] at p
  obtain ⟨⟨⟨p1, p2⟩, p3⟩, p4 | ⟨⟨⟨p4, p5⟩, p6⟩, p7⟩⟩ := p
  · obtain ⟨p4, p5⟩ := p4
    cases hh : T b c with
    | false =>
      rw [hh] at p4
      exact h2 true a b ha hb ab p1 c d hc hd cd ac.symm bc.symm ad.symm bd.symm (by rw [p5]; decide) (by rw [hh]; decide) (by rw [← p4]; decide) (by rw [p3]; decide) p2
    | true =>
      rw [hh] at p4
      exact h2 false a c ha hc ac p5 b d hb hd bd ab.symm bc ad.symm cd.symm (by rw [p1]; decide) (by rw [S.sym c b hc hb, hh]; decide) (by rw [← p4]; decide) (by rw [p2]; decide) p3
  · obtain ⟨e, he, e1, e2, e3, e4⟩ := fifth_iff.mp p7
    have q1 : a ∈ onlyL n T b c := mem_onlyL.mpr ⟨ha, ac, by rw [S.sym b a hb ha]; exact p1, by rw [S.sym c a hc ha]; exact p5⟩
    have q2 : d ∈ onlyL n T c b := mem_onlyL.mpr ⟨hd, bd.symm, p2, p3⟩
    rcases Nat.lt_or_gt_of_ne bc with h3 | h3
    · exact h5 c b hc h3 (by rw [S.sym c b hc hb]; exact p4) d q2 a q1 (by rw [S.sym d a hd ha]; exact p6) e he e2 e1 e4 e3
    · exact h5 b c hb h3 p4 a q1 d q2 p6 e he e1 e2 e3 e4
/-! ### pairs turned -/
def nrm (p : Nat × Nat) : Nat × Nat := (min p.1 p.2, max p.1 p.2)
theorem nrm_comm (i j : Nat) : nrm (i, j) = nrm (j, i) := by
  unfold nrm
  rw [Nat.min_comm, Nat.max_comm]
def flipL (T : Tm) (S : List (Nat × Nat)) : Tm := fun i j => T i j != decide (nrm (i, j) ∈ S)
def flip1 (T : Tm) (x y : Nat) : Tm := fun i j => if (i = x ∧ j = y) ∨ (i = y ∧ j = x) then !T i j else T i j
theorem flipL_nil (T : Tm) (i j : Nat) : flipL T [] i j = T i j := by
  unfold flipL
  rw [decide_eq_false (by simp)]
  cases T i j <;> rfl
theorem flip1_iff {x y i j : Nat} : ((i = x ∧ j = y) ∨ (i = y ∧ j = x)) ↔ nrm (i, j) = nrm (x, y) := by
  unfold nrm
  rw [Prod.mk.injEq]
  omega
theorem flip1_twice (T : Tm) (x y i j : Nat) : flip1 (flip1 T x y) x y i j = T i j := by
  unfold flip1
  by_cases h : (i = x ∧ j = y) ∨ (i = y ∧ j = x)
  · rw [if_pos h, if_pos h, Bool.not_not]
  · rw [if_neg h, if_neg h]
theorem flip1_L {T : Tm} {x y : Nat} {S : List (Nat × Nat)} (h : nrm (x, y) ∉ S) (i j : Nat) : flipL (flip1 T x y) S i j = flipL T (nrm (x, y) :: S) i j := by
  unfold flipL flip1
  by_cases e : (i = x ∧ j = y) ∨ (i = y ∧ j = x)
  · have e2 := flip1_iff.mp e
    rw [if_pos e, e2, decide_eq_false h, decide_eq_true (List.mem_cons_self ..)]
    cases T i j <;> rfl
  · have e2 := fun h => e (flip1_iff.mpr h)
    rw [if_neg e]
    congr 1
    refine decide_eq_decide.mpr ⟨fun h => List.mem_cons_of_mem _ h, fun h => (List.mem_cons.mp h).resolve_left e2⟩
theorem SymT.flip1 {n : Nat} {T : Tm} (S : SymT n T) {x y : Nat} (hxy : x ≠ y) : SymT n (flip1 T x y) := by
  refine ⟨fun i j hi hj => ?_, fun i hi => ?_⟩
  · unfold Ns.flip1
    by_cases h : (i = x ∧ j = y) ∨ (i = y ∧ j = x)
    · rw [if_pos h, if_pos (by omega), S.sym i j hi hj]
    · rw [if_neg h, if_neg (by omega), S.sym i j hi hj]
  · unfold Ns.flip1
    rw [if_neg (by omega), S.irr i hi]
theorem SymT.flipL {n : Nat} {T : Tm} (S : SymT n T) {L : List (Nat × Nat)} (hL : ∀ p ∈ L, p.1 < p.2) : SymT n (flipL T L) := by
  refine ⟨fun i j hi hj => ?_, fun i hi => ?_⟩
  · unfold Ns.flipL
    rw [S.sym i j hi hj, nrm_comm]
  · unfold Ns.flipL
    rw [S.irr i hi, decide_eq_false fun h => ?_]
    · rfl
    · have := hL _ h
      unfold nrm at this
      omega
/-- a set of pairs of points -/
def NormS (n : Nat) (S : List (Nat × Nat)) : Prop := S.Nodup ∧ ∀ p ∈ S, p.1 < p.2 ∧ p.2 < n
/-- some few pairs, other than those, behind whose turning there is no place -/
def Free (n : Nat) (kd : Kd) (T : Tm) (many : Nat) (dn : List (Nat × Nat)) : Prop := ∃ S, NormS n S ∧ S.length ≤ many ∧ (∀ p ∈ S, p ∉ dn) ∧ ¬ Has n kd (flipL T S)
theorem nrm_in {n : Nat} {p : Nat × Nat} (h : p.1 < n ∧ p.2 < n ∧ p.1 ≠ p.2) : (nrm p).1 < (nrm p).2 ∧ (nrm p).2 < n := by
  unfold nrm
  omega
theorem free_step {n : Nat} {kd : Kd} {T : Tm} {L : List (Nat × Nat)} {many : Nat} {dn : List (Nat × Nat)} (W : Wit n kd T L) (S : SymT n T) (h : Free n kd T many dn) :
    0 < many ∧ ∃ p ∈ L, nrm p ∉ dn ∧ Free n kd (flip1 T p.1 p.2) (many - 1) (dn ++ [nrm p]) := by
  obtain ⟨R, ⟨nd, hR⟩, hl, hd, no⟩ := h
  have hex : ∃ p ∈ L, nrm p ∈ R := by
    refine Classical.byContradiction fun hc => no (W.2 _ (S.flipL fun p hp => (hR p hp).1) fun p hp => ?_)
    unfold flipL
    rw [decide_eq_false fun h => hc ⟨p, hp, h⟩]
    cases T p.1 p.2 <;> rfl
  obtain ⟨p, hp, hpR⟩ := hex
  have hpos := List.length_pos_of_mem hpR
  refine ⟨by omega, p, hp, hd _ hpR, R.erase (nrm p), ⟨nd.erase _, fun q hq => hR q (List.mem_of_mem_erase hq)⟩, ?_, fun q hq => ?_, fun hh => no (hh.congr fun i j _ _ => ?_)⟩
  · rw [List.length_erase_of_mem hpR]
    omega
  · rw [List.mem_append, List.mem_singleton]
    rintro (h | h)
    · exact hd q (List.mem_of_mem_erase hq) h
    · rw [h] at hq
      exact (List.Nodup.mem_erase_iff nd).mp hq |>.1 rfl
  · rw [show p = (p.1, p.2) from rfl, flip1_L (fun h => (List.Nodup.mem_erase_iff nd).mp h |>.1 rfl)]
    unfold flipL
    congr 1
    refine decide_eq_decide.mpr ?_
    rw [List.mem_cons, List.Nodup.mem_erase_iff nd]
    constructor
    · rintro (h | h)
      · rw [h]; exact hpR
      · exact h.2
    · intro h
      by_cases e : nrm (i, j) = nrm (p.1, p.2)
      · exact .inl e
      · exact .inr ⟨e, h⟩
theorem free_none {n : Nat} {kd : Kd} {T : Tm} {many : Nat} {dn : List (Nat × Nat)} (h : ¬ Has n kd T) : Free n kd T many dn :=
  ⟨[], ⟨.nil, fun _ h => absurd h List.not_mem_nil⟩, Nat.zero_le _, fun _ h => absurd h List.not_mem_nil, fun hh => h (hh.congr fun i j _ _ => flipL_nil T i j)⟩
/-- what the search finds -/
def Fnd (n : Nat) (kd : Kd) (T : Tm) (many : Nat) (dn R : List (Nat × Nat)) : Prop := ∃ S, R = dn ++ S ∧ NormS n S ∧ S.length ≤ many ∧ (∀ p ∈ S, p ∉ dn) ∧ ¬ Has n kd (flipL T S)
theorem fnd_none {n : Nat} {kd : Kd} {T : Tm} {many : Nat} {dn : List (Nat × Nat)} (h : ¬ Has n kd T) : Fnd n kd T many dn dn :=
  ⟨[], (List.append_nil _).symm, ⟨.nil, fun _ h => absurd h List.not_mem_nil⟩, Nat.zero_le _, fun _ h => absurd h List.not_mem_nil, fun hh => h (hh.congr fun i j _ _ => flipL_nil T i j)⟩
theorem fnd_step {n : Nat} {kd : Kd} {T : Tm} {many : Nat} {dn R : List (Nat × Nat)} {p : Nat × Nat} (hp : p.1 < n ∧ p.2 < n ∧ p.1 ≠ p.2) (hn : nrm p ∉ dn) (h : Fnd n kd (flip1 T p.1 p.2) many (dn ++ [nrm p]) R) : Fnd n kd T (many + 1) dn R := by
  obtain ⟨S, rfl, ⟨nd, hS⟩, hl, hd, no⟩ := h
  have hpS : nrm p ∉ S := fun h => hd _ h (List.mem_append.mpr (.inr (List.mem_singleton.mpr rfl)))
  refine ⟨nrm p :: S, by rw [List.append_assoc]; rfl, ⟨List.nodup_cons.mpr ⟨hpS, nd⟩, fun q hq => ?_⟩, by rw [List.length_cons]; omega, fun q hq => ?_, fun hh => no (hh.congr fun i j _ _ => ?_)⟩
  · rcases List.mem_cons.mp hq with rfl | hq
    · exact nrm_in hp
    · exact hS q hq
  · rcases List.mem_cons.mp hq with rfl | hq
    · exact hn
    · exact fun h => hd q hq (List.mem_append.mpr (.inl h))
  · exact (flip1_L (x := p.1) (y := p.2) hpS i j).symm
end Ns

/-! Own layer T: nets as texts, in plain Lean. -/
namespace Ns
open PySem PySem.Spec PyProof.Rows L2 TL
def strI (k : Nat) : Str := Str.ofString (toString (k : Int))
theorem strI_facts : ∀ k, k < 41 → (strI k).length ≤ 2 ∧ 32 ∉ tl (strI k) ∧ 45 ∉ tl (strI k) ∧ 58 ∉ tl (strI k) := by decide +kernel
/-- the number that figures tell -/
def numS (t : Str) : Option Nat := (List.range 41).find? fun k => decide (t = strI k)
theorem numS_strI : ∀ k, k < 41 → numS (strI k) = some k := by decide +kernel
theorem numS_some {t : Str} {k : Nat} (h : numS t = some k) : k < 41 ∧ t = strI k := by
  unfold numS at h
  have h1 := List.mem_of_find?_eq_some h
  have h2 := List.find?_some h
  exact ⟨List.mem_range.mp h1, of_decide_eq_true h2⟩
def blank : Str := Str.ofString " "
def minus : Str := Str.ofString "-"
def colon : Str := Str.ofString ":"
def wordOf (p : Nat × Nat) : Str := strI p.1 ++ minus ++ strI p.2
/-- the text of a net, as the program glues it -/
def textOf (n : Nat) (ties : List (Nat × Nat)) : Str := strI n ++ colon ++ Txt.join (Str.ofString "") (ties.map fun p => blank ++ strI p.1 ++ minus ++ strI p.2)
def wordM (w : Str) : Option (Nat × Nat) := match Txt.split w minus with
  | [a, b] => (match numS a, numS b with
    | some x, some y => some (x, y)
    | _, _ => none)
  | _ => none
def pairsM : List Str → Option (List (Nat × Nat))
  | [] => some []
  | w :: ws => (match wordM w, pairsM ws with
    | some p, some ps => some (p :: ps)
    | _, _ => none)
def pairD (p : Nat × Nat) : PyData := .tuple [.int p.1, .int p.2]
def netD (n : Nat) (ties : List (Nat × Nat)) : PyData := .tuple [.int n, .tuple (ties.map pairD)]
/-- the program's reading -/
def readM (t : Str) : Option (Nat × List (Nat × Nat)) :=
  if 58 ∈ tl t then
    match Txt.split t blank with
    | [] => none
    | w :: ws => if Txt.endswith w colon = true then
        (match pairsM ws, numS (cutS w none (some (-1))) with
        | some ps, some n => if isNetD (netD n ps) = true then some (n, ps) else none
        | _, _ => none)
      else none
  else none
/-- the law's own reading -/
def ownM (t : Str) : Option (Nat × List (Nat × Nat)) :=
  match Txt.split t blank with
  | [] => none
  | w :: ws => if cutS w (some (-1)) none = colon then
      (match numS (cutS w none (some (-1))) with
      | none => none
      | some n => (match pairsM ws with
        | none => none
        | some ps => if (ps.filter fun p => decide (p.1 < p.2 ∧ p.2 < n)) = ps ∧ ((List.range (ps.length - 1)).filter fun k => !HT.lexLt [(((ps.getD k (0, 0)).1 : Nat) : Int), ((ps.getD k (0, 0)).2 : Nat)] [(((ps.getD (k + 1) (0, 0)).1 : Nat) : Int), ((ps.getD (k + 1) (0, 0)).2 : Nat)]) = [] then some (n, ps) else none))
    else none
theorem lexLt2 (a b c d : Int) : HT.lexLt [a, b] [c, d] = decide (a < c ∨ a = c ∧ b < d) := by
  rw [HT.lexLt_cons, HT.lexLt_cons, HT.lexLt_nil_nil]
  by_cases h1 : a = c
  · rw [if_pos h1]
    by_cases h2 : b = d
    · rw [if_pos h2]
      exact (decide_eq_false (by omega)).symm
    · rw [if_neg h2]
      exact decide_eq_decide.mpr ⟨fun h => .inr ⟨h1, h⟩, fun h => by omega⟩
  · rw [if_neg h1]
    exact decide_eq_decide.mpr ⟨fun h => .inl h, fun h => by omega⟩
theorem okFrom_pairs (n : Nat) : ∀ (ps : List (Nat × Nat)) (b : Int × Int), okFrom n b (ps.map pairD) = true ↔
    (∀ p ∈ ps, p.1 < p.2 ∧ p.2 < n) ∧ (∀ p ∈ ps, b.1 < (p.1 : Int) ∨ b.1 = (p.1 : Int) ∧ b.2 < (p.2 : Int)) ∧ ps.Pairwise ltP
  | [], b => ⟨fun _ => ⟨fun _ h => absurd h List.not_mem_nil, fun _ h => absurd h List.not_mem_nil, List.Pairwise.nil⟩, fun _ => rfl⟩
  | p :: r, b => by
    show ((decide (0 ≤ (p.1 : Int) ∧ (p.1 : Int) < (p.2 : Int) ∧ (p.2 : Int) < n) && HT.lexLt [b.1, b.2] [(p.1 : Int), (p.2 : Int)]) && okFrom n ((p.1 : Int), (p.2 : Int)) (r.map pairD)) = true ↔ _
    rw [lexLt2, Bool.and_eq_true, Bool.and_eq_true, decide_eq_true_eq, decide_eq_true_eq, okFrom_pairs n r, List.pairwise_cons]
    constructor
    · rintro ⟨⟨h1, h2⟩, h3, h4, h5⟩
      refine ⟨fun q hq => ?_, fun q hq => ?_, fun q hq => ?_, h5⟩
      · rcases List.mem_cons.mp hq with rfl | hq
        · omega
        · exact h3 q hq
      · rcases List.mem_cons.mp hq with rfl | hq
        · exact h2
        · have h6 := h4 q hq
          dsimp only at h6
          omega
      · have h6 := h4 q hq
        dsimp only at h6
        show p.1 < q.1 ∨ p.1 = q.1 ∧ p.2 < q.2
        omega
    · rintro ⟨h3, h4, h5, h6⟩
      have h7 := h3 p (List.mem_cons_self ..)
      refine ⟨⟨by omega, h4 p (List.mem_cons_self ..)⟩, fun q hq => h3 q (List.mem_cons_of_mem _ hq), fun q hq => ?_, h6⟩
      have h8 : p.1 < q.1 ∨ p.1 = q.1 ∧ p.2 < q.2 := h5 q hq
      show (p.1 : Int) < q.1 ∨ (p.1 : Int) = q.1 ∧ (p.2 : Int) < q.2
      omega
theorem isNetD_net {n : Nat} {ps : List (Nat × Nat)} : isNetD (netD n ps) = true ↔ n ≤ 40 ∧ Good n ps := by
  show (decide (0 ≤ (n : Int) ∧ (n : Int) ≤ 40) && okFrom n (-1, -1) (ps.map pairD)) = true ↔ _
  rw [Bool.and_eq_true, decide_eq_true_eq, okFrom_pairs]
  constructor
  · rintro ⟨h1, h2, _, h3⟩
    exact ⟨by omega, h2, h3⟩
  · rintro ⟨h1, h2, h3⟩
    refine ⟨by omega, h2, fun p _ => ?_, h3⟩
    show (-1 : Int) < p.1 ∨ _
    omega
theorem ltP_trans {a b c : Nat × Nat} (h1 : ltP a b) (h2 : ltP b c) : ltP a c := by
  unfold ltP at *
  omega
theorem steps_sorted (d : Nat × Nat) : ∀ ps : List (Nat × Nat), (∀ k, k + 1 < ps.length → ltP (ps.getD k d) (ps.getD (k + 1) d)) ↔ ps.Pairwise ltP
  | [] => ⟨fun _ => List.Pairwise.nil, fun _ k h => absurd h (by simp)⟩
  | [a] => ⟨fun _ => List.pairwise_singleton .., fun _ k h => absurd h (by simp)⟩
  | a :: b :: r => by
    have ih := steps_sorted d (b :: r)
    rw [List.pairwise_cons, ← ih]
    constructor
    · intro h
      have h0 : ltP a b := h 0 (by simp)
      have ht : ∀ k, k + 1 < (b :: r).length → ltP ((b :: r).getD k d) ((b :: r).getD (k + 1) d) := fun k hk => h (k + 1) (by rw [List.length_cons]; omega)
      refine ⟨fun q hq => ?_, ht⟩
      have hp := ih.mp ht
      rcases List.mem_cons.mp hq with rfl | hq
      · exact h0
      · exact ltP_trans h0 ((List.pairwise_cons.mp hp).1 q hq)
    · rintro ⟨h1, h2⟩ k hk
      match k with
      | 0 => exact h1 b (List.mem_cons_self ..)
      | k + 1 => exact h2 k (by rw [List.length_cons] at hk; omega)
/-- the law's two tests of the pairs -/
theorem tests_good (n : Nat) (ps : List (Nat × Nat)) : ((ps.filter fun p => decide (p.1 < p.2 ∧ p.2 < n)) = ps ∧ ((List.range (ps.length - 1)).filter fun k => !HT.lexLt [(((ps.getD k (0, 0)).1 : Nat) : Int), ((ps.getD k (0, 0)).2 : Nat)] [(((ps.getD (k + 1) (0, 0)).1 : Nat) : Int), ((ps.getD (k + 1) (0, 0)).2 : Nat)]) = []) ↔ Good n ps := by
  unfold Good
  rw [← steps_sorted (0, 0), List.filter_eq_self, List.filter_eq_nil_iff]
  refine and_congr ⟨fun h p hp => of_decide_eq_true (h p hp), fun h p hp => decide_eq_true (h p hp)⟩ ?_
  constructor
  · intro h k hk
    have h1 := h k (List.mem_range.mpr (by omega))
    rw [lexLt2, Bool.not_eq_true', decide_eq_false_iff_not, Classical.not_not] at h1
    unfold ltP
    omega
  · intro h k hk
    have h1 : (ps.getD k (0, 0)).1 < (ps.getD (k + 1) (0, 0)).1 ∨ (ps.getD k (0, 0)).1 = (ps.getD (k + 1) (0, 0)).1 ∧ (ps.getD k (0, 0)).2 < (ps.getD (k + 1) (0, 0)).2 := h k (by have := List.mem_range.mp hk; omega)
    rw [lexLt2, Bool.not_eq_true', decide_eq_false_iff_not, Classical.not_not]
    omega
theorem pairsM_snoc {p : Nat × Nat} {w : Str} : ∀ {a : List Str} {ps : List (Nat × Nat)}, pairsM a = some ps → wordM w = some p → pairsM (a ++ [w]) = some (ps ++ [p])
  | [], ps, h, hw => by
    cases h
    show (match wordM w, pairsM [] with | some p, some ps => some (p :: ps) | _, _ => none) = _
    rw [hw]
    rfl
  | x :: a, ps, h, hw => by
    unfold pairsM at h
    cases e1 : wordM x with
    | none => rw [e1] at h; cases h
    | some q =>
      cases e2 : pairsM a with
      | none => rw [e1, e2] at h; cases h
      | some qs =>
        rw [e1, e2] at h
        cases h
        show (match wordM x, pairsM (a ++ [w]) with | some p, some ps => some (p :: ps) | _, _ => none) = _
        rw [e1, pairsM_snoc e2 hw]
        rfl
theorem pairsM_none {w : Str} : ∀ {a : List Str}, w ∈ a → wordM w = none → pairsM a = none
  | x :: a, h, hw => by
    unfold pairsM
    rcases List.mem_cons.mp h with rfl | h
    · rw [hw]
    · rw [pairsM_none h hw]
      cases wordM x <;> rfl
theorem wordM_two {w a b : Str} (h : Txt.split w minus = [a, b]) : wordM w = (match numS a, numS b with
    | some x, some y => some (x, y)
    | _, _ => none) := by
  unfold wordM
  rw [h]
theorem wordM_not {w : Str} (h : (Txt.split w minus).length ≠ 2) : wordM w = none := by
  unfold wordM
  split
  · rename_i e
    rw [e] at h
    exact absurd rfl h
  · rfl
theorem two_of {α : Type} {l : List α} (h : l.length = 2) : ∃ a b, l = [a, b] := by
  match l, h with
  | [a, b], _ => exact ⟨a, b, rfl⟩
theorem split_some (t : Str) : ∃ w ws, Txt.split t blank = w :: ws := by
  cases e : Txt.split t blank with
  | nil =>
    exfalso
    have h := PySem.StrLaws.join_split t blank
    rw [e] at h
    have h2 : t = Str.empty := h.symm
    subst h2
    have h3 : Txt.split Str.empty blank = [Str.empty] := by decide +kernel
    rw [h3] at e
    cases e
  | cons w ws => exact ⟨w, ws, rfl⟩
theorem readM_nocolon {t : Str} (h : 58 ∉ tl t) : readM t = none := by
  unfold readM
  rw [if_neg h]
theorem readM_noend {t w : Str} {ws : List Str} (e : Txt.split t blank = w :: ws) (h : Txt.endswith w (Str.ofString ":") = false) : readM t = none := by
  unfold readM
  rw [e]
  dsimp only
  rw [if_neg (show ¬ Txt.endswith w colon = true from fun h2 => by rw [show Txt.endswith w colon = false from h] at h2; cases h2)]
  split <;> rfl
theorem readM_nopairs {t w : Str} {ws : List Str} (e : Txt.split t blank = w :: ws) (h : pairsM ws = none) : readM t = none := by
  unfold readM
  rw [e]
  dsimp only
  rw [h]
  dsimp only
  split
  · split <;> rfl
  · rfl
theorem readM_nohead {t w : Str} {ws : List Str} (e : Txt.split t blank = w :: ws) (h : numS (cutS w none (some (-1))) = none) : readM t = none := by
  unfold readM
  rw [e]
  dsimp only
  rw [h]
  cases pairsM ws <;> (dsimp only; split; split <;> rfl; rfl)
theorem readM_all {t w : Str} {ws : List Str} {ps : List (Nat × Nat)} {n : Nat} (e : Txt.split t blank = w :: ws) (hc : 58 ∈ tl t) (he : Txt.endswith w (Str.ofString ":") = true) (hp : pairsM ws = some ps) (hn : numS (cutS w none (some (-1))) = some n) :
    readM t = if isNetD (netD n ps) = true then some (n, ps) else none := by
  unfold readM
  rw [e, if_pos hc]
  dsimp only
  rw [if_pos (show Txt.endswith w colon = true from he), hp, hn]
theorem tl_colon : tl colon = [58] := rfl
theorem tl_blank : tl blank = [32] := rfl
theorem tl_minus : tl minus = [45] := rfl
theorem ends_colon (w : Str) : Txt.endswith w colon = true ↔ cutS w (some (-1)) none = colon := by
  have e1 : (cutS w (some (-1)) none = colon) ↔ (tl w).drop ((tl w).length - 1) = [58] := by
    constructor
    · intro h
      have h1 : tl (cutS w (some (-1)) none) = [58] := by rw [h]; rfl
      unfold cutS at h1
      rw [tl_mk] at h1
      rw [← h1]
      have e2 : HT.sIx w.length 0 (some (-1)) = (tl w).length - 1 := by
        rw [len_tl]
        unfold HT.sIx
        first | omega | (simp; omega) | (simp; split <;> omega)
      have e3 : HT.sIx w.length w.length none = (tl w).length := by rw [len_tl]; rfl
      rw [e2, e3]
      exact (List.take_of_length_le (by rw [List.length_drop]; exact Nat.le_refl _)).symm
    · intro h
      refine ext_tl ?_
      rw [tl_colon, ← h]
      unfold cutS
      rw [tl_mk]
      have e2 : HT.sIx w.length 0 (some (-1)) = (tl w).length - 1 := by
        rw [len_tl]
        unfold HT.sIx
        first | omega | (simp; omega) | (simp; split <;> omega)
      have e3 : HT.sIx w.length w.length none = (tl w).length := by rw [len_tl]; rfl
      rw [e2, e3]
      exact (List.take_of_length_le (by rw [List.length_drop]; exact Nat.le_refl _))
  rw [e1]
  show (decide (0 + 1 ≤ w.length) && Builtin.Str.subAt w colon (w.length - 1)) = true ↔ _
  rw [PySem.StrLaws.subAt_eq, Bool.and_eq_true, decide_eq_true_eq, beq_iff_eq, len_tl]
  show _ ∧ ((tl w).drop ((tl w).length - 1)).take 1 = [58] ↔ _
  constructor
  · rintro ⟨h1, h2⟩
    rw [← h2]
    exact (List.take_of_length_le (by rw [List.length_drop]; omega)).symm
  · intro h
    have h1 := congrArg List.length h
    rw [List.length_drop] at h1
    have h2 : (tl w).length - ((tl w).length - 1) = 1 := h1
    refine ⟨by omega, ?_⟩
    rw [h]
    rfl
theorem mem_join {c : Nat} {S : List Nat} : ∀ {parts : List (List Nat)} {w : List Nat}, w ∈ parts → c ∈ w → c ∈ joinL S parts
  | [p], w, hw, hc => by
    rw [List.mem_singleton.mp hw] at hc
    exact hc
  | p :: q :: r, w, hw, hc => by
    show c ∈ p ++ (S ++ joinL S (q :: r))
    rcases List.mem_cons.mp hw with rfl | hw
    · exact List.mem_append.mpr (.inl hc)
    · exact List.mem_append.mpr (.inr (List.mem_append.mpr (.inr (mem_join hw hc))))
theorem mem_of_split {c : Nat} {t w : Str} (hw : w ∈ Txt.split t blank) (hc : c ∈ tl w) : c ∈ tl t := by
  have h := PySem.StrLaws.join_split t blank
  rw [← h, tl_join]
  exact mem_join (List.mem_map.mpr ⟨w, hw, rfl⟩) hc
theorem read_own (t : Str) : readM t = ownM t := by
  unfold readM ownM
  rcases e : Txt.split t blank with _ | ⟨w, ws⟩
  · by_cases h : 58 ∈ tl t <;> simp [h]
  · dsimp only
    by_cases he : cutS w (some (-1)) none = colon
    · have he2 := (ends_colon w).mpr he
      have hc : 58 ∈ tl t := by
        refine mem_of_split (w := w) (by rw [e]; exact List.mem_cons_self ..) ?_
        have h1 : tl (cutS w (some (-1)) none) = [58] := by rw [he]; rfl
        unfold cutS at h1
        rw [tl_mk] at h1
        have h2 : 58 ∈ ((w.cps.toList.drop (HT.sIx w.length 0 (some (-1)))).take (HT.sIx w.length w.length none - HT.sIx w.length 0 (some (-1)))) := by rw [h1]; exact List.mem_singleton.mpr rfl
        exact List.mem_of_mem_drop (List.mem_of_mem_take h2)
      rw [if_pos hc, if_pos he, if_pos he2]
      rcases e2 : numS (cutS w none (some (-1))) with _ | n
      · cases pairsM ws <;> rfl
      · rcases e3 : pairsM ws with _ | ps
        · rfl
        · dsimp only
          have hn := (numS_some e2).1
          by_cases hg : Good n ps
          · rw [if_pos (isNetD_net.mpr ⟨by omega, hg⟩), if_pos ((tests_good n ps).mpr hg)]
          · rw [if_neg (fun h => hg (isNetD_net.mp h).2), if_neg (fun h => hg ((tests_good n ps).mp h))]
    · rw [if_neg he, if_neg (fun h => he ((ends_colon w).mp h))]
      by_cases h : 58 ∈ tl t <;> simp [h]
theorem tl_textOf (n : Nat) (ties : List (Nat × Nat)) : tl (textOf n ties) = joinL [32] ((tl (strI n) ++ [58]) :: ties.map fun p => tl (strI p.1) ++ [45] ++ tl (strI p.2)) := by
  unfold textOf
  rw [tl_append, tl_append, join_eq, tl_join, tl_colon]
  have h : ∀ (a : List Nat) (l : List (Nat × Nat)), a ++ joinL (tl (Str.ofString "")) (List.map tl (List.map (fun p => blank ++ strI p.1 ++ minus ++ strI p.2) l)) = joinL [32] (a :: l.map fun p => tl (strI p.1) ++ [45] ++ tl (strI p.2)) := by
    intro a l
    induction l generalizing a with
    | nil => exact List.append_nil a
    | cons p r ih =>
      have e1 : joinL (tl (Str.ofString "")) (List.map tl (List.map (fun p => blank ++ strI p.1 ++ minus ++ strI p.2) (p :: r))) = tl (blank ++ strI p.1 ++ minus ++ strI p.2) ++ joinL (tl (Str.ofString "")) (List.map tl (List.map (fun p => blank ++ strI p.1 ++ minus ++ strI p.2) r)) := by
        cases r with
        | nil => exact (List.append_nil _).symm
        | cons q r => rfl
      rw [e1, tl_append, tl_append, tl_append, tl_blank, tl_minus]
      show _ = a ++ ([32] ++ joinL [32] ((tl (strI p.1) ++ [45] ++ tl (strI p.2)) :: List.map (fun p => tl (strI p.1) ++ [45] ++ tl (strI p.2)) r))
      rw [← ih]
      simp only [List.append_assoc]
  exact h _ _
theorem tl_wordOf (p : Nat × Nat) : tl (wordOf p) = tl (strI p.1) ++ [45] ++ tl (strI p.2) := by
  unfold wordOf
  rw [tl_append, tl_append, tl_minus]
theorem textOf_join (n : Nat) (ties : List (Nat × Nat)) : textOf n ties = Txt.join blank ((strI n ++ colon) :: ties.map wordOf) := by
  refine ext_tl ?_
  rw [tl_textOf, join_eq, tl_join, tl_blank, List.map_cons, tl_append, tl_colon, List.map_map]
  congr 2
  refine List.map_congr_left fun p _ => ?_
  exact (tl_wordOf p).symm
theorem wordM_of {p : Nat × Nat} (h1 : p.1 < 41) (h2 : p.2 < 41) : wordM (wordOf p) = some p := by
  have e : Txt.split (wordOf p) minus = [strI p.1, strI p.2] := by
    have e1 : wordOf p = Txt.join minus [strI p.1, strI p.2] := by
      rw [join_eq]
      rfl
    rw [e1]
    refine split_join (y := minus) (s := 45) (S := []) rfl (by decide +kernel) (by simp) fun q hq => ?_
    rcases List.mem_cons.mp hq with rfl | hq
    · exact (strI_facts p.1 h1).2.2.1
    · rw [List.mem_singleton.mp hq]
      exact (strI_facts p.2 h2).2.2.1
  unfold wordM
  rw [e]
  dsimp only
  rw [numS_strI p.1 h1, numS_strI p.2 h2]
theorem pairsM_of : ∀ {ps : List (Nat × Nat)}, (∀ p ∈ ps, p.1 < 41 ∧ p.2 < 41) → pairsM (ps.map wordOf) = some ps
  | [], _ => rfl
  | p :: r, h => by
    unfold pairsM
    rw [List.map_cons]
    dsimp only
    rw [wordM_of (h p (List.mem_cons_self ..)).1 (h p (List.mem_cons_self ..)).2, pairsM_of fun q hq => h q (List.mem_cons_of_mem _ hq)]
theorem notin_word {p : Nat × Nat} (h1 : p.1 < 41) (h2 : p.2 < 41) : 32 ∉ tl (wordOf p) := by
  rw [tl_wordOf]
  have := (strI_facts p.1 h1).2.1
  have := (strI_facts p.2 h2).2.1
  intro hm
  rcases List.mem_append.mp hm with hm | hm
  · rcases List.mem_append.mp hm with hm | hm
    · exact absurd hm (by assumption)
    · cases List.mem_singleton.mp hm
  · exact absurd hm (by assumption)
theorem cut_all (a : Str) (c : Str) (hc : (tl c).length = 1) : cutS (a ++ c) none (some (-1)) = a ∧ cutS (a ++ c) (some (-1)) none = c := by
  have el : (a ++ c).length = (tl a).length + 1 := by rw [len_tl, tl_append, List.length_append, hc]
  have e2 : HT.sIx ((tl a).length + 1) 0 (some (-1)) = (tl a).length := by
    unfold HT.sIx
    first | omega | (simp; omega) | (simp; split <;> omega)
  have e4 : HT.sIx ((tl a).length + 1) ((tl a).length + 1) (some (-1)) = (tl a).length := by
    unfold HT.sIx
    first | omega | (simp; omega) | (simp; split <;> omega)
  constructor
  · refine ext_tl ?_
    unfold cutS
    rw [tl_mk, el, e4]
    show ((tl (a ++ c)).drop 0).take ((tl a).length - 0) = _
    rw [tl_append, List.drop_zero, Nat.sub_zero, List.take_left']
    rfl
  · refine ext_tl ?_
    unfold cutS
    rw [tl_mk, el, e2]
    show ((tl (a ++ c)).drop (tl a).length).take ((tl a).length + 1 - (tl a).length) = _
    rw [tl_append, List.drop_left', List.take_of_length_le (by omega)]
    rfl
theorem read_text {n : Nat} {ties : List (Nat × Nat)} (hn : n ≤ 40) (hg : Good n ties) : readM (textOf n ties) = some (n, ties) := by
  have hb : ∀ p ∈ ties, p.1 < 41 ∧ p.2 < 41 := fun p hp => by
    have := hg.1 p hp
    omega
  have es : Txt.split (textOf n ties) blank = (strI n ++ colon) :: ties.map wordOf := by
    rw [textOf_join]
    refine split_join (y := blank) (s := 32) (S := []) rfl (by decide +kernel) (by simp) fun q hq => ?_
    rcases List.mem_cons.mp hq with rfl | hq
    · rw [tl_append, tl_colon]
      have := (strI_facts n (by omega)).2.1
      intro hm
      rcases List.mem_append.mp hm with hm | hm
      · exact absurd hm (by assumption)
      · cases List.mem_singleton.mp hm
    · obtain ⟨p, hp, rfl⟩ := List.mem_map.mp hq
      exact notin_word (hb p hp).1 (hb p hp).2
  rw [read_own]
  unfold ownM
  rw [es]
  dsimp only
  obtain ⟨c1, c2⟩ := cut_all (strI n) colon rfl
  rw [if_pos c2, c1, numS_strI n (by omega), pairsM_of hb]
  dsimp only
  rw [if_pos ((tests_good n ties).mpr hg)]
theorem join_le {b : Nat} : ∀ {parts : List (List Nat)}, (∀ p ∈ parts, p.length ≤ b) → (joinL [32] parts).length ≤ parts.length * (b + 1)
  | [], _ => Nat.zero_le _
  | [p], h => by
    have := h p (List.mem_singleton.mpr rfl)
    show p.length ≤ 1 * (b + 1)
    omega
  | p :: q :: r, h => by
    have h1 := h p (List.mem_cons_self ..)
    have h2 := join_le fun z hz => h z (List.mem_cons_of_mem p hz)
    show (p ++ ([32] ++ joinL [32] (q :: r))).length ≤ ((q :: r).length + 1) * (b + 1)
    rw [List.length_append, List.length_append, Nat.succ_mul]
    show p.length + (1 + (joinL [32] (q :: r)).length) ≤ _
    omega
theorem textOf_len {n : Nat} {ties : List (Nat × Nat)} (hn : n ≤ 40) (hg : Good n ties) : (textOf n ties).length ≤ (ties.length + 1) * 6 := by
  rw [len_tl, tl_textOf]
  have h := join_le (b := 5) (parts := (tl (strI n) ++ [58]) :: ties.map fun p => tl (strI p.1) ++ [45] ++ tl (strI p.2)) fun p hp => ?_
  · rw [List.length_cons, List.length_map] at h
    exact h
  · rcases List.mem_cons.mp hp with rfl | hp
    · have := (strI_facts n (by omega)).1
      rw [len_tl] at this
      rw [List.length_append]
      show _ + 1 ≤ 5
      omega
    · obtain ⟨q, hq, rfl⟩ := List.mem_map.mp hp
      have h0 := hg.1 q hq
      have h1 := (strI_facts q.1 (by omega)).1
      have h2 := (strI_facts q.2 (by omega)).1
      rw [len_tl] at h1 h2
      rw [List.length_append, List.length_append]
      show _ + 1 + _ ≤ 5
      omega
/-- each part of a split text is no longer than the text, and there are no more parts than signs and one -/
theorem part_le {S : List Nat} : ∀ {parts : List (List Nat)} {w : List Nat}, w ∈ parts → w.length ≤ (joinL S parts).length
  | [p], w, hw => by
    rw [List.mem_singleton.mp hw]
    exact Nat.le_refl _
  | p :: q :: r, w, hw => by
    show w.length ≤ (p ++ (S ++ joinL S (q :: r))).length
    rw [List.length_append, List.length_append]
    rcases List.mem_cons.mp hw with rfl | hw
    · omega
    · have := part_le (S := S) hw
      omega
theorem parts_le {s : Nat} : ∀ (parts : List (List Nat)), parts.length ≤ (joinL [s] parts).length + 1
  | [] => by simp
  | [p] => by simp
  | p :: q :: r => by
    show (q :: r).length + 1 ≤ (p ++ ([s] ++ joinL [s] (q :: r))).length + 1
    have := parts_le (s := s) (q :: r)
    rw [List.length_append, List.length_append]
    simp at *
    omega
theorem split_part {t w y : Str} (hw : w ∈ Txt.split t y) : w.length ≤ t.length := by
  have h := PySem.StrLaws.join_split t y
  have h2 : (tl t).length = (joinL (tl y) ((Txt.split t y).map tl)).length := by rw [← tl_join, h]
  rw [len_tl, len_tl, h2]
  exact part_le (List.mem_map.mpr ⟨w, hw, rfl⟩)
theorem split_len {t y : Str} {s : Nat} (hy : tl y = [s]) : (Txt.split t y).length ≤ t.length + 1 := by
  have h := PySem.StrLaws.join_split t y
  have h2 : (tl t).length = (joinL (tl y) ((Txt.split t y).map tl)).length := by rw [← tl_join, h]
  rw [len_tl t, h2, hy]
  have := parts_le (s := s) ((Txt.split t y).map tl)
  rw [List.length_map] at this
  exact this
end Ns

/-! Own layer U: pairs and nets as data that are compared. -/
namespace Ns
open PySem PySem.Spec PyProof.Rows L2
theorem dps_pairs {K : PySem.W.Frag} {H : Hp} : ∀ {vs : List V} {ps : List (Nat × Nat)}, Paired (Pr H) vs ps → DpAll K H vs (ps.map pairD)
  | _, _, .nil => .nil
  | _, _, .cons ⟨t, e, h⟩ r => by
    subst e
    exact .cons (.tup (SqT.of h) (.cons (.int _) (.cons (.int _) .nil))) (dps_pairs r)
theorem dp_pair {K : PySem.W.Frag} {H : Hp} {v : V} {p : Nat × Nat} (h : Pr H v p) : Dp K H v (pairD p) := by
  obtain ⟨t, e, h⟩ := h
  subst e
  exact .tup (SqT.of h) (.cons (.int _) (.cons (.int _) .nil))
theorem dp_net {K : PySem.W.Frag} {H : Hp} {v : V} {n : Nat} {ties : List (Nat × Nat)} (x : Net H v n ties) : Dp K H v (netD n ties) := by
  obtain ⟨t, u, rfl, h, t2, vs, rfl, h2, pr⟩ := x
  exact .tup (SqT.of h) (.cons (.int _) (.cons (.tup (SqT.of h2) (dps_pairs pr)) .nil))
theorem pairs_flat : ∀ ps : List (Nat × Nat), PyData.canLayAll0 (ps.map pairD) = true ∧ PyData.depthAll (ps.map pairD) ≤ 3
  | [] => ⟨rfl, by decide⟩
  | p :: r => by
    obtain ⟨h1, h2⟩ := pairs_flat r
    refine ⟨?_, ?_⟩
    · show (true && PyData.canLayAll0 (r.map pairD)) = true
      rw [h1]
      rfl
    · have : PyData.depth (pairD p) ≤ 3 := by simp [pairD, PyData.depth, PyData.depthAll]
      simp only [List.map_cons, PyData.depthAll]
      omega
theorem sh_pair (p : Nat × Nat) : SeqAt.shaped (pairD p) = true := rfl
theorem sh_pairsT (ps : List (Nat × Nat)) : SeqAt.shaped (.tuple (ps.map pairD)) = true := by
  obtain ⟨h1, h2⟩ := pairs_flat ps
  have d : (PyData.tuple (ps.map pairD)).depth ≤ 6 := by
    simp only [PyData.depth]
    omega
  show (PyData.canLayAll0 (ps.map pairD) && decide _) = true
  rw [h1, decide_eq_true (by omega)]
  rfl
theorem sh_pairsL (ps : List (Nat × Nat)) : SeqAt.shaped (.list (ps.map pairD)) = true := sh_pairsT ps
theorem sh_net (n : Nat) (ps : List (Nat × Nat)) : SeqAt.shaped (netD n ps) = true := by
  obtain ⟨h1, h2⟩ := pairs_flat ps
  have d : (netD n ps).depth ≤ 8 := by
    simp only [netD, PyData.depth, PyData.depthAll]
    omega
  show ((true && (PyData.canLayAll0 (ps.map pairD) && true)) && decide _) = true
  rw [h1, decide_eq_true (by omega)]
  rfl
theorem eqv_pairD (a b : Nat × Nat) : PyData.eqv (pairD a) (pairD b) = decide (a = b) := by
  obtain ⟨a1, a2⟩ := a
  obtain ⟨b1, b2⟩ := b
  simp only [pairD, PyData.eqv, PyData.eqvAll, Bool.and_true]
  rw [Bool.eq_iff_iff]
  simp
  omega
theorem any_pairD (q : Nat × Nat) : ∀ ps : List (Nat × Nat), ((ps.map pairD).any fun z => PyData.eqv z (pairD q)) = decide (q ∈ ps)
  | [] => by simp
  | p :: r => by
    rw [List.map_cons, List.any_cons, any_pairD q r, eqv_pairD, Bool.eq_iff_iff, Bool.or_eq_true, decide_eq_true_eq, decide_eq_true_eq, decide_eq_true_eq, List.mem_cons]
    exact ⟨fun h => h.elim (fun e => .inl e.symm) .inr, fun h => h.elim (fun e => .inl e.symm) .inr⟩
theorem eqv_pairsD : ∀ as bs : List (Nat × Nat), PyData.eqvAll (as.map pairD) (bs.map pairD) = decide (as = bs)
  | [], [] => rfl
  | [], _ :: _ => rfl
  | _ :: _, [] => rfl
  | a :: as, b :: bs => by
    rw [List.map_cons, List.map_cons, PyData.eqvAll, eqv_pairD, eqv_pairsD as bs, Bool.eq_iff_iff]
    simp
theorem eqv_sh {d : PyData} (h : SeqAt.shaped d = true) : PyData.eqv d d = true := SeqAt.eqv_refl d (shaped_lay h).1
theorem eqv_netD (n m : Nat) (as bs : List (Nat × Nat)) : PyData.eqv (netD n as) (netD m bs) = decide (n = m ∧ as = bs) := by
  show (((n : Int) == (m : Int)) && (PyData.eqvAll (as.map pairD) (bs.map pairD) && true)) = _
  rw [eqv_pairsD, Bool.and_true, Bool.eq_iff_iff]
  simp
  omega
end Ns

/-! Own layer: the search for places, walked. -/
namespace Ns
open PySem PySem.Spec PyProof.Rows L2
local macro_rules | `(tactic| walk_at "look") => `(tactic| first | assumption | exact upd_same | (refine (upd_ne (by first | assumption | exact Ne.symm (by assumption))).trans ?_; walk_at "look"))
local macro_rules | `(tactic| walk_at "cond") => `(tactic| first | assumption | omega | (dsimp only; omega) | exact ⟨by omega, by omega⟩ | decide | exact ⟨by decide, by decide, by decide⟩ | exact .inr ⟨by decide, by decide⟩ | exact .inl ⟨by decide, by decide⟩ | exact .inr ⟨by omega, by omega⟩ | exact .inl ⟨by omega, by omega⟩)
local macro_rules | `(tactic| walk_at "rd1") => `(tactic| first
  | refine ⟨_, rfl, ?_⟩
  | refine ⟨_, _, rfl, rfl, ?_⟩
  | refine ⟨rfl, ?_⟩
  | refine ⟨_, _, rfl, rfl, (by walk_at "cond"), ?_⟩
  | refine ⟨_, _, _, _, rfl, rfl, SqL.of (by walk_at "look"), rfl, ?_⟩
  | refine ⟨_, _, _, _, rfl, rfl, SqT.of (by walk_at "look"), rfl, ?_⟩
  | refine ⟨_, _, _, _, rfl, rfl, (by walk_at "look"), rfl, ?_⟩
  | refine .inl ⟨_, rfl, ?_⟩
  | refine ⟨.inl ⟨rfl, _, SqL.of (by walk_at "look")⟩, ?_⟩
  | refine ⟨_, _, rfl, ⟨by omega, by omega, by omega, by omega⟩, ?_⟩
  | refine ⟨_, rfl, (by omega), (by omega), ?_⟩
  | refine And.intro (by walk_at "cond") ?_)
local macro_rules | `(tactic| walk_at "rd") => `(tactic| repeat (walk_at "rd1"))

abbrev s_turn : Stmt := top 16
abbrev N_turn : List Str := ["tied", "x", "y"]
theorem sc_turn : FnScope N_turn ["tied", "x", "y"] (defScope s_turn) := ⟨rfl, rfl, rfl, by decide +kernel, rfl, by decide +kernel, by decide +kernel⟩
abbrev s_only : Stmt := top 18
abbrev N_only : List Str := ["tied", "x", "y", "z"]
theorem sc_only : FnScope N_only ["tied", "x", "y"] (defScope s_only) := ⟨rfl, rfl, rfl, by decide +kernel, rfl, by decide +kernel, by decide +kernel⟩
abbrev s_crossed : Stmt := top 19
abbrev N_crossed : List Str := ["tied", "x", "y", "one", "other"]
theorem sc_crossed : FnScope N_crossed ["tied"] (defScope s_crossed) := ⟨rfl, rfl, rfl, by decide +kernel, rfl, by decide +kernel, by decide +kernel⟩
abbrev s_along : Stmt := top 20
abbrev N_along : List Str := ["tied", "kind", "x", "y", "one", "other", "u", "v"]
theorem sc_along : FnScope N_along ["tied", "kind"] (defScope s_along) := ⟨rfl, rfl, rfl, by decide +kernel, rfl, by decide +kernel, by decide +kernel⟩
abbrev s_all_pairs : Stmt := top 22
abbrev N_all_pairs : List Str := ["points", "out", "k", "x", "y"]
theorem sc_all_pairs : FnScope N_all_pairs ["points"] (defScope s_all_pairs) := ⟨rfl, rfl, rfl, by decide +kernel, rfl, by decide +kernel, by decide +kernel⟩
abbrev s_unsplit : Stmt := top 21
abbrev N_unsplit : List Str := ["tied", "points", "state", "x", "y", "apart", "u", "v", "last", "z"]
theorem sc_unsplit : FnScope N_unsplit ["tied"] (defScope s_unsplit) := ⟨rfl, rfl, rfl, by decide +kernel, rfl, by decide +kernel, by decide +kernel⟩
abbrev s_pairs_of_place : Stmt := top 17
abbrev N_pairs_of_place : List Str := ["tied", "kind"]
theorem sc_pairs_of_place : FnScope N_pairs_of_place ["tied", "kind"] (defScope s_pairs_of_place) := ⟨rfl, rfl, rfl, by decide +kernel, rfl, by decide +kernel, by decide +kernel⟩
section
variable {P : Program} {w : World} {K : PySem.W.Frag} {mg : Str → Option Value} {base : Heap}
/-! ### a pair is turned -/
def sp_turn : Sp := fun vs H Q _ => ∃ (m : Addr) (rows : List Addr) (n x y : Nat) (T : Tm), vs = [.ref m, pI x, pI y] ∧ Mat H m rows n T ∧ x < n ∧ y < n ∧ x ≠ y ∧ ∀ H', Mat H' m rows n (flip1 T x y) → Out rows H H' → (∀ a, H a = none → H' a = none) → Q .non H'
theorem flip1_set (T : Tm) {x y : Nat} (h : x ≠ y) (i j : Nat) : setT (setT T x y (!T x y)) y x (!T y x) i j = flip1 T x y i j := by
  unfold setT flip1
  by_cases h1 : i = y ∧ j = x
  · rw [if_pos h1, if_pos (.inr h1), h1.1, h1.2]
  · rw [if_neg h1]
    by_cases h2 : i = x ∧ j = y
    · rw [if_pos h2, if_pos (.inl h2), h2.1, h2.2]
    · rw [if_neg h2, if_neg (fun h => h.elim h2 h1)]
theorem cal_turn (A : At K mg "turn" s_turn) (B : Bi mg) : Cal P w K mg base 1 "turn" sp_turn := by
  have nd := sc_turn.nd
  refine A.cal sc_turn (fun _ _ _ _ _ _ us hl => match us, hl with | [_, _, _], _ => rfl) ?_ fun f cdv A' outer s H vs Q E hr h => ⟨_, (pss_cons (ps_asg (pe_not (pe_ix (ix_listK (K := K) rfl) (pe_ix (ix_listK (K := K) rfl) (pv 0) (pv 1) (fun _ _ => rfl)) (pv 2) (fun _ _ => rfl))) (pg_sub (pe_ix (ix_listK (K := K) rfl) (pv 0) (pv 1) (fun _ _ => rfl)) (pv 2) set_list))
  (pss_one (ps_asg (pe_not (pe_ix (ix_listK (K := K) rfl) (pe_ix (ix_listK (K := K) rfl) (pv 0) (pv 2) (fun _ _ => rfl)) (pv 1) (fun _ _ => rfl))) (pg_sub (pe_ix (ix_listK (K := K) rfl) (pv 0) (pv 2) (fun _ _ => rfl)) (pv 1) set_list)))), ?_⟩
  · rintro vs H Q E ⟨m, rows, n, x, y, T, rfl, _⟩
    rfl
  · obtain ⟨m, rows, n, x, y, T, rfl, M, hx, hy, hxy, q⟩ := h
    refine rdM M rfl rfl rfl hx hy ⟨_, rfl, ?_⟩
    refine wrM M rfl rfl rfl hx hy fun H1 M1 o1 n1 => ?_
    refine rdM M1 rfl rfl rfl hy hx ⟨_, rfl, ?_⟩
    refine wrM M1 rfl rfl rfl hy hx fun H2 M2 o2 n2 => ?_
    refine q H2 (M2.congr fun i j _ _ => ?_) (o1.trans o2) fun a ha => n2 a (n1 a ha)
    have e : setT T x y (!T x y) y x = T y x := by
      unfold setT
      rw [if_neg (fun h => hxy h.1.symm)]
    rw [e]
    exact flip1_set T hxy i j
/-! ### points tied to the one alone -/
def sp_only : Sp := fun vs H Q _ => ∃ (m : Addr) (rows : List Addr) (n x y : Nat) (T : Tm), vs = [.ref m, pI x, pI y] ∧ Mat H m rows n T ∧ x < n ∧ y < n ∧ n ≤ 1000 ∧ ∀ (p : Addr) H', Same H H' → H p = none → H' p = some (.lst ((onlyL n T x y).map pI)) → Q (.ref p) H'
theorem cal_only (A : At K mg "only" s_only) (B : Bi mg) : Cal P w K mg base 1 "only" sp_only := by
  have nd := sc_only.nd
  refine A.cal sc_only (fun _ _ _ _ _ _ us hl => match us, hl with | [_, _, _], _ => rfl) ?_ fun f cdv A' outer s H vs Q E hr h => ⟨_, (pss_one (ps_ret (pe_lc (own := [("z", 3)]) rfl nd (pi_range1 (by rfl) B.range (pa_cons (pe_callB (call_lenK (K := K) rfl) (by rfl) B.len (by decide +kernel) (pa_cons (pv 0) pa_nil)) pa_nil)) (blkOk_by (own := [("z", 3)]) (N := N_only) (sc := defScope s_only) (by decide +kernel)) (fun _ _ _ _ _ => (pg_name (i := 3) nd rfl (.inl rfl) (.inr rfl))) (fun _ _ _ _ _ => (pts_one (PW.pt (pw_and (pt_cmpR op_ne (pv 3) (pv 2) (nomark _)) (pw_and (pt_val (pe_ix (ix_listK (K := K) rfl) (pe_ix (ix_listK (K := K) rfl) (pv 0) (pv 1) (fun _ _ => rfl)) (pv 3) (fun _ _ => rfl))) (pw_and1 (pt_not (pt_val (pe_ix (ix_listK (K := K) rfl) (pe_ix (ix_listK (K := K) rfl) (pv 0) (pv 2) (fun _ _ => rfl)) (pv 3) (fun _ _ => rfl)))))))))) (fun _ _ _ _ _ => (pv 3))))), ?_⟩
  · rintro vs H Q E ⟨m, rows, n, x, y, T, rfl, _⟩
    rfl
  · obtain ⟨m, rows, n, x, y, T, rfl, M, hx, hy, hn, q⟩ := h
    have hl : (rows.map V.ref).length = n := by rw [List.length_map, M.len]
    refine ⟨_, rfl, _, _, rfl, .inl ⟨_, SqL.of M.top, rfl⟩, _, rfl, by omega, by omega, fun D hD => ?_⟩
    refine comp_range (lo := 0) (n := (((rows.map V.ref).length : Nat) : Int).toNat) (sizeBig (by omega)) (fun z => if (decide (z ≠ y) && T x z && !T y z) = true then some z else none) persPt hD ?_ ?_
    · intro z H2 Yes No hz sm2 yes no
      have hz : z < n := by omega
      have M2 := M.same sm2
      rw [Int.zero_add]
      have fin : (if (decide (z ≠ y) && T x z && !T y z) = true then Yes (.int z) H2 else No H2) := by
        by_cases hc : (decide (z ≠ y) && T x z && !T y z) = true
        · rw [if_pos hc]
          exact yes _ (if_pos hc) _ _ (Same.refl _) rfl
        · rw [if_neg hc]
          exact no (if_neg hc) _ (Same.refl _)
      refine ⟨rfl, _, rfl, _, rfl, rfl, _, rfl, ifNI (fun c => ?_) (fun c => ?_)⟩
      · refine rdM M2 rfl rfl rfl hx hz ⟨_, rfl, ifB (fun c1 => ?_) (fun c1 => ?_)⟩
        · refine rdM M2 rfl rfl rfl hy hz ⟨_, rfl, ifN (fun c2 => ?_) (fun c2 => ?_)⟩
          · rw [if_pos (by rw [decide_eq_true (by omega), c1, c2]; rfl)] at fin
            exact ⟨_, rfl, fin⟩
          · rw [if_neg (by rw [c2]; simp)] at fin
            exact fin
        · rw [if_neg (by rw [c1]; simp)] at fin
          exact fin
      · rw [if_neg (by rw [decide_eq_false (by omega)]; simp)] at fin
        exact fin
    · intro H2 ys sm2 hy2 pr
      rw [fm_id, show (((rows.map V.ref).length : Nat) : Int).toNat = n by omega] at pr
      rw [pairedPt_eq pr] at hy2
      exact q D H2 sm2 hD hy2
/-! ### threshold -/
def sp_place (kd : Kd) : Sp := fun vs H Q _ => ∃ (m : Addr) (rows : List Addr) (n : Nat) (T : Tm), vs = [.ref m] ∧ Mat H m rows n T ∧ SymT n T ∧ n ≤ 1000 ∧
  (∀ (p : Addr) (us : List V) (L : List (Nat × Nat)) H', Same H H' → H p = none → H' p = some (.lst us) → Paired (Pr H') us L → Wit n kd T L → Q (.ref p) H') ∧ (¬ Has n kd T → ∀ H', Same H H' → Q .non H')
theorem cal_crossed (A : At K mg "crossed" s_crossed) (B : Bi mg) (c_only : Cal P w K mg base 1 "only" sp_only) : Cal P w K mg base 2 "crossed" (sp_place .threshold) := by
  have nd := sc_crossed.nd
  refine A.cal sc_crossed (fun _ _ _ _ _ _ us hl => match us, hl with | [_], _ => rfl) ?_ fun f cdv A' outer s H vs Q E hr h => ⟨_, (pss_cons (ps_for passOwn rfl (pi_range1 (by rfl) B.range (pa_cons (pe_callB (call_lenK (K := K) rfl) (by rfl) B.len (by decide +kernel) (pa_cons (pv 0) pa_nil)) pa_nil)) (pg_name (i := 1) nd rfl (.inl rfl)) (pss_one (ps_for passOwn rfl (pi_range1 (by rfl) B.range (pa_cons (pv 1) pa_nil)) (pg_name (i := 2) nd rfl (.inl rfl)) (pss_cons (ps_par (i := 3) (j := 4) rfl nd rfl rfl (by decide) rfl rfl (pa_cons (pe_cal c_only hr (by first | decide | omega) (by rfl) passE (pa_cons (pv 0) (pa_cons (pv 1) (pa_cons (pv 2) pa_nil)))) (pa_cons (pe_cal c_only hr (by first | decide | omega) (by rfl) passE (pa_cons (pv 0) (pa_cons (pv 2) (pa_cons (pv 1) pa_nil)))) pa_nil)) (by rfl))
  (pss_one (ps_if (PW.pt (pw_and (pt_truthK (K := K) rfl (pv 3) (by intro _; rfl)) (pw_and1 (pt_truthK (K := K) rfl (pv 4) (by intro _; rfl))))) (pss_one (ps_ret (pe_lst (pa_cons (pe_tup (pa_cons (pv 1) (pa_cons (pe_ix (ix_listK (K := K) rfl) (pv 3) pe_int (fun _ _ => rfl)) pa_nil))) (pa_cons (pe_tup (pa_cons (pv 2) (pa_cons (pe_ix (ix_listK (K := K) rfl) (pv 4) pe_int (fun _ _ => rfl)) pa_nil))) (pa_cons (pe_tup (pa_cons (pv 1) (pa_cons (pe_ix (ix_listK (K := K) rfl) (pv 4) pe_int (fun _ _ => rfl)) pa_nil))) (pa_cons (pe_tup (pa_cons (pv 2) (pa_cons (pe_ix (ix_listK (K := K) rfl) (pv 3) pe_int (fun _ _ => rfl)) pa_nil))) pa_nil))))))) pss_nil))))))
  (pss_one (ps_ret pe_non))), ?_⟩
  · rintro vs H Q E ⟨m, rows, n, T, rfl, _⟩
    rfl
  · obtain ⟨m, rows, n, T, rfl, M, S, hn, q1, q2⟩ := h
    have hl : (rows.map V.ref).length = n := by rw [List.length_map, M.len]
    refine ⟨_, rfl, _, _, rfl, .inl ⟨_, SqL.of M.top, rfl⟩, _, rfl, by omega, by omega, ?_⟩
    refine for_range (lo := 0) (n := (((rows.map V.ref).length : Nat) : Int).toNat) (fun i σ H1 => ∃ v1 v2 v3 v4, σ = [some (.ref m), v1, v2, v3, v4] ∧ Same H H1 ∧ ∀ x y, x < i → y < x → onlyL n T x y = [] ∨ onlyL n T y x = []) ⟨none, none, none, none, rfl, Same.refl H, fun x y h => absurd h (Nat.not_lt_zero x)⟩ ?_ ?_
    · rintro i σ H1 hi ⟨v1, v2, v3, v4, rfl, s1, no⟩
      have hi : i < n := by omega
      rw [Int.zero_add]
      refine ⟨_, rfl, _, rfl, by omega, by omega, ?_⟩
      refine for_range (lo := 0) (n := (i : Int).toNat) (fun j σ H2 => ∃ v2 v3 v4, σ = [some (.ref m), some (pI i), v2, v3, v4] ∧ Same H H2 ∧ ∀ y, y < j → onlyL n T i y = [] ∨ onlyL n T y i = []) ⟨v2, v3, v4, rfl, s1, fun y h => absurd h (Nat.not_lt_zero y)⟩ ?_ ?_
      · rintro j σ H2 hj ⟨v2, v3, v4, rfl, s2, noj⟩
        have hj : j < i := by omega
        rw [Int.zero_add]
        refine ⟨_, rfl, _, rfl, _, rfl, m, rows, n, i, j, T, rfl, M.same s2, hi, by omega, hn, fun p1 H3 s3 np1 hp1 => ?_⟩
        have s13 := s2.trans s3
        refine ⟨_, rfl, _, rfl, _, rfl, m, rows, n, j, i, T, rfl, M.same s13, by omega, hi, hn, fun p2 H4 s4 np2 hp2 => ?_⟩
        have s14 := s13.trans s4
        have hp1' := s4 _ _ hp1
        refine ⟨_, _, rfl, _, rfl, _, .inl ⟨_, SqL.of hp1', rfl⟩, ?_⟩
        cases e1 : onlyL n T i j with
        | nil =>
          refine ⟨_, _, _, rfl, s14, fun y hy => ?_⟩
          by_cases e : y = j
          · subst e
            exact .inl e1
          · exact noj y (by omega)
        | cons u us =>
        rw [e1] at hp1'
        refine ⟨_, rfl, _, .inl ⟨_, SqL.of hp2, rfl⟩, ?_⟩
        cases e2 : onlyL n T j i with
        | nil =>
          refine ⟨_, _, _, rfl, s14, fun y hy => ?_⟩
          by_cases e : y = j
          · subst e
            exact .inr e2
          · exact noj y (by omega)
        | cons v vs =>
        rw [e2] at hp2
        have W := wit_crossed S hi (show j < n by omega) (by omega) (u := u) (v := v) (by rw [e1]; exact List.mem_cons_self ..) (by rw [e2]; exact List.mem_cons_self ..)
        refine ⟨_, rfl, _, rfl, _, _, _, _, rfl, rfl, SqL.of hp1', atI_nat (j := 0) (v := pI u) rfl, by show 2 ≤ sizeLine; decide, fun t1 h1 => ?_⟩
        have x1 := same_laid (o := .tup [pI i, pI u]) h1
        refine ⟨_, rfl, _, rfl, _, _, _, _, rfl, rfl, SqL.of (x1 _ _ hp2), atI_nat (j := 0) (v := pI v) rfl, by show 2 ≤ sizeLine; decide, fun t2 h2 => ?_⟩
        have x2 := sNew x1 (o := .tup [pI j, pI v]) h2
        refine ⟨_, rfl, _, rfl, _, _, _, _, rfl, rfl, SqL.of (x2 _ _ hp2), atI_nat (j := 0) (v := pI v) rfl, by show 2 ≤ sizeLine; decide, fun t3 h3 => ?_⟩
        have x3 := sNew x2 (o := .tup [pI i, pI v]) h3
        refine ⟨_, rfl, _, rfl, _, _, _, _, rfl, rfl, SqL.of (x3 _ _ hp1'), atI_nat (j := 0) (v := pI u) rfl, by show 2 ≤ sizeLine; decide, fun t4 h4 => ?_⟩
        have x4 := sNew x3 (o := .tup [pI j, pI u]) h4
        refine ⟨by show 4 ≤ sizeLine; decide, fun p5 h5 => ?_⟩
        have x5 := sNew x4 (o := .lst [.ref t1, .ref t2, .ref t3, .ref t4]) h5
        have y4 := same_laid (o := .lst [.ref t1, .ref t2, .ref t3, .ref t4]) h5
        have y3 := (same_laid h4).trans y4
        have y2 := (same_laid h3).trans y3
        have y1 := (same_laid h2).trans y2
        have np5 : H p5 = none := gone (s14.trans x4) h5
        refine q1 p5 _ [(i, u), (j, v), (i, v), (j, u)] _ (s14.trans x5) np5 upd_same ?_ W
        exact .cons ⟨t1, rfl, y1 _ _ upd_same⟩ (.cons ⟨t2, rfl, y2 _ _ upd_same⟩ (.cons ⟨t3, rfl, y3 _ _ upd_same⟩ (.cons ⟨t4, rfl, y4 _ _ upd_same⟩ .nil)))
      · rintro σ H2 ⟨v2, v3, v4, rfl, s2, noj⟩
        rw [show ((i : Int)).toNat = i from Int.toNat_natCast i] at noj
        refine ⟨_, _, _, _, rfl, s2, fun x y hx hy => ?_⟩
        by_cases e : x = i
        · subst e
          exact noj y hy
        · exact no x y (by omega) hy
    · rintro σ H1 ⟨v1, v2, v3, v4, rfl, s1, no⟩
      rw [show (((rows.map V.ref).length : Nat) : Int).toNat = n by omega] at no
      exact q2 (none_crossed S no) H1 s1
/-! ### nested, cograph -/
def kdS : Kd → Str
  | .threshold => Str.ofString "threshold"
  | .nested => Str.ofString "nested"
  | .cograph => Str.ofString "cograph"
  | .split => Str.ofString "split"
def sp_along : Sp := fun vs H Q _ => ∃ (m : Addr) (rows : List Addr) (n : Nat) (T : Tm) (kd : Kd), vs = [.ref m, .str (kdS kd)] ∧ (kd = .nested ∨ kd = .cograph) ∧ Mat H m rows n T ∧ SymT n T ∧ n ≤ 1000 ∧
  (∀ (p : Addr) (us : List V) (L : List (Nat × Nat)) H', Same H H' → H p = none → H' p = some (.lst us) → Paired (Pr H') us L → Wit n kd T L → Q (.ref p) H') ∧ (¬ Has n kd T → ∀ H', Same H H' → Q .non H')
def Quiet (kd : Kd) (T : Tm) (u v : Nat) : Prop := kd = .cograph ∧ T u v = true
theorem only_len (n : Nat) (T : Tm) (x y : Nat) : (onlyL n T x y).length ≤ n := by
  unfold onlyL
  have := List.length_filter_le (fun z => decide (z ≠ y) && T x z && !T y z) (List.range n)
  rw [List.length_range] at this
  exact this
theorem cal_along (A : At K mg "along" s_along) (B : Bi mg) (c_only : Cal P w K mg base 1 "only" sp_only) : Cal P w K mg base 2 "along" sp_along := by
  have nd := sc_along.nd
  refine A.cal sc_along (fun _ _ _ _ _ _ us hl => match us, hl with | [_, _], _ => rfl) ?_ fun f cdv A' outer s H vs Q E hr h => ⟨_, (pss_cons (ps_for passOwn rfl (pi_range1 (by rfl) B.range (pa_cons (pe_callB (call_lenK (K := K) rfl) (by rfl) B.len (by decide +kernel) (pa_cons (pv 0) pa_nil)) pa_nil)) (pg_name (i := 2) nd rfl (.inl rfl)) (pss_one (ps_for passOwn rfl (pi_range1 (by rfl) B.range (pa_cons (pv 2) pa_nil)) (pg_name (i := 3) nd rfl (.inl rfl)) (pss_cons (ps_if (pt_not (pt_val (pe_ix (ix_listK (K := K) rfl) (pe_ix (ix_listK (K := K) rfl) (pv 0) (pv 2) (fun _ _ => rfl)) (pv 3) (fun _ _ => rfl)))) (pss_one ps_continue) pss_nil)
  (pss_cons (ps_par (i := 4) (j := 5) rfl nd rfl rfl (by decide) rfl rfl (pa_cons (pe_cal c_only hr (by first | decide | omega) (by rfl) passE (pa_cons (pv 0) (pa_cons (pv 2) (pa_cons (pv 3) pa_nil)))) (pa_cons (pe_cal c_only hr (by first | decide | omega) (by rfl) passE (pa_cons (pv 0) (pa_cons (pv 3) (pa_cons (pv 2) pa_nil)))) pa_nil)) (by rfl))
  (pss_one (ps_for passOwn rfl (pi_listK (K := K) rfl (pv 4)) (pg_name (i := 6) nd rfl (.inl rfl)) (pss_one (ps_for passOwn rfl (pi_listK (K := K) rfl (pv 5)) (pg_name (i := 7) nd rfl (.inl rfl)) (pss_cons (ps_if (pt_cmpR op_eq (pv 1) pe_str (nomark _)) (pss_one (ps_ret (pe_lst (pa_cons (pe_tup (pa_cons (pv 6) (pa_cons (pv 2) pa_nil))) (pa_cons (pe_tup (pa_cons (pv 2) (pa_cons (pv 3) pa_nil))) (pa_cons (pe_tup (pa_cons (pv 3) (pa_cons (pv 7) pa_nil))) (pa_cons (pe_tup (pa_cons (pv 6) (pa_cons (pv 3) pa_nil))) (pa_cons (pe_tup (pa_cons (pv 2) (pa_cons (pv 7) pa_nil))) pa_nil)))))))) pss_nil)
  (pss_one (ps_if (pt_not (pt_val (pe_ix (ix_listK (K := K) rfl) (pe_ix (ix_listK (K := K) rfl) (pv 0) (pv 6) (fun _ _ => rfl)) (pv 7) (fun _ _ => rfl)))) (pss_one (ps_ret (pe_lst (pa_cons (pe_tup (pa_cons (pv 6) (pa_cons (pv 2) pa_nil))) (pa_cons (pe_tup (pa_cons (pv 2) (pa_cons (pv 3) pa_nil))) (pa_cons (pe_tup (pa_cons (pv 3) (pa_cons (pv 7) pa_nil))) (pa_cons (pe_tup (pa_cons (pv 6) (pa_cons (pv 3) pa_nil))) (pa_cons (pe_tup (pa_cons (pv 2) (pa_cons (pv 7) pa_nil))) (pa_cons (pe_tup (pa_cons (pv 6) (pa_cons (pv 7) pa_nil))) pa_nil))))))))) pss_nil))))))))))))
  (pss_one (ps_ret pe_non))), ?_⟩
  · rintro vs H Q E ⟨m, rows, n, T, kd, rfl, _⟩
    rfl
  · obtain ⟨m, rows, n, T, kd, rfl, hkd, M, S, hn, q1, q2⟩ := h
    have hl : (rows.map V.ref).length = n := by rw [List.length_map, M.len]
    have fin : (∀ x y, x < n → y < x → T x y = true → ∀ u ∈ onlyL n T x y, ∀ v ∈ onlyL n T y x, Quiet kd T u v) → ¬ Has n kd T := fun h => by
      rcases hkd with rfl | rfl
      · exact none_nested S fun x y hx hy t u hu v hv => by cases (h x y hx hy t u hu v hv).1
      · exact none_cograph S fun x y hx hy t u hu v hv => (h x y hx hy t u hu v hv).2
    refine ⟨_, rfl, _, _, rfl, .inl ⟨_, SqL.of M.top, rfl⟩, _, rfl, by omega, by omega, ?_⟩
    refine for_range (lo := 0) (n := (((rows.map V.ref).length : Nat) : Int).toNat) (fun i σ H1 => ∃ v1 v2 v3 v4 v5 v6, σ = [some (.ref m), some (.str (kdS kd)), v1, v2, v3, v4, v5, v6] ∧ Same H H1 ∧ ∀ x y, x < i → y < x → T x y = true → ∀ u ∈ onlyL n T x y, ∀ v ∈ onlyL n T y x, Quiet kd T u v) ⟨none, none, none, none, none, none, rfl, Same.refl H, fun x y h => absurd h (Nat.not_lt_zero x)⟩ ?_ ?_
    · rintro i σ H1 hi ⟨v1, v2, v3, v4, v5, v6, rfl, s1, no⟩
      have hi : i < n := by omega
      rw [Int.zero_add]
      refine ⟨_, rfl, _, rfl, by omega, by omega, ?_⟩
      refine for_range (lo := 0) (n := (i : Int).toNat) (fun j σ H2 => ∃ v2 v3 v4 v5 v6, σ = [some (.ref m), some (.str (kdS kd)), some (pI i), v2, v3, v4, v5, v6] ∧ Same H H2 ∧ ∀ y, y < j → T i y = true → ∀ u ∈ onlyL n T i y, ∀ v ∈ onlyL n T y i, Quiet kd T u v) ⟨v2, v3, v4, v5, v6, rfl, s1, fun y h => absurd h (Nat.not_lt_zero y)⟩ ?_ ?_
      · rintro j σ H2 hj ⟨v2, v3, v4, v5, v6, rfl, s2, noj⟩
        have hj : j < i := by omega
        rw [Int.zero_add]
        refine rdM (M.same s2) rfl rfl rfl hi (by omega) ⟨_, rfl, ifN (fun c => ?_) (fun c => ?_)⟩
        · refine ⟨_, _, _, _, _, rfl, s2, fun y hy t => ?_⟩
          by_cases e : y = j
          · subst e
            rw [c] at t
            cases t
          · exact noj y (by omega) t
        refine ⟨_, rfl, _, rfl, _, rfl, m, rows, n, i, j, T, rfl, M.same s2, hi, by omega, hn, fun p1 H3 s3 np1 hp1 => ?_⟩
        have s13 := s2.trans s3
        refine ⟨_, rfl, _, rfl, _, rfl, m, rows, n, j, i, T, rfl, M.same s13, by omega, hi, hn, fun p2 H4 s4 np2 hp2 => ?_⟩
        have s14 := s13.trans s4
        have hp1' := s4 _ _ hp1
        have ol1 := only_len n T i j
        have ol2 := only_len n T j i
        refine ⟨_, _, rfl, _, rfl, p1, rfl, ⟨_, SqL.of hp1'⟩, for_list (K := K) (a := p1) (xs := (onlyL n T i j).map pI) (fun a σ H5 => ∃ v5 v6, σ = [some (.ref m), some (.str (kdS kd)), some (pI i), some (pI j), some (.ref p1), some (.ref p2), v5, v6] ∧ H5 = H4 ∧ ∀ u ∈ (onlyL n T i j).take a, ∀ v ∈ onlyL n T j i, Quiet kd T u v)
          ⟨v5, v6, rfl, rfl, fun u hu => by simp at hu⟩ (fun a σ H5 _ ⟨_, _, _, e, _⟩ => by rw [e]; exact SqL.of hp1') ?_ ?_⟩
        · rintro a x σ H5 hx ⟨v5, v6, rfl, rfl, nou⟩
          rw [List.getElem?_map] at hx
          obtain ⟨u, hu, rfl⟩ := Option.map_eq_some_iff.mp hx
          have hum := List.mem_of_getElem? hu
          refine ⟨_, rfl, p2, rfl, ⟨_, SqL.of hp2⟩, for_list (K := K) (a := p2) (xs := (onlyL n T j i).map pI) (fun b σ H6 => ∃ v6, σ = [some (.ref m), some (.str (kdS kd)), some (pI i), some (pI j), some (.ref p1), some (.ref p2), some (pI u), v6] ∧ H6 = H5 ∧ ∀ v ∈ (onlyL n T j i).take b, Quiet kd T u v)
            ⟨v6, rfl, rfl, fun v hv => by simp at hv⟩ (fun b σ H6 _ ⟨_, _, e, _⟩ => by rw [e]; exact SqL.of hp2) ?_ ?_⟩
          · rintro b x σ H6 hx ⟨v6, rfl, rfl, nov⟩
            rw [List.getElem?_map] at hx
            obtain ⟨v, hv, rfl⟩ := Option.map_eq_some_iff.mp hx
            have hvm := List.mem_of_getElem? hv
            have go : T u v = true → kd = .cograph → ∃ v6', [some (V.ref m), some (V.str (kdS kd)), some (pI i), some (pI j), some (V.ref p1), some (V.ref p2), some (pI u), some (pI v)] = [some (V.ref m), some (.str (kdS kd)), some (pI i), some (pI j), some (.ref p1), some (.ref p2), some (pI u), v6'] ∧ H6 = H6 ∧ ∀ v' ∈ (onlyL n T j i).take (b + 1), Quiet kd T u v' := fun t k => by
              refine ⟨_, rfl, rfl, fun v' hv' => ?_⟩
              rw [List.take_add_one, hv] at hv'
              rcases List.mem_append.mp hv' with h | h
              · exact nov v' h
              · have e : v' = v := by simpa using h
                subst e
                exact ⟨k, t⟩
            have hun := (mem_onlyL.mp hum).1
            have hvn := (mem_onlyL.mp hvm).1
            rcases hkd with rfl | rfl
            · refine ⟨_, rfl, rfl, _, rfl, iteT ?_⟩
              have W := wit_nested S hi (show j < n by omega) (by omega) c hum hvm
              exact lstP (ix := [(6, 2), (2, 3), (3, 7), (6, 3), (2, 7)]) (vals := [(u, i), (i, j), (j, v), (u, j), (i, v)]) (by simp) (.cons ⟨rfl, rfl⟩ (.cons ⟨rfl, rfl⟩ (.cons ⟨rfl, rfl⟩ (.cons ⟨rfl, rfl⟩ (.cons ⟨rfl, rfl⟩ .nil)))))
                fun p us H' s n e pr => q1 p us _ H' (s14.trans s) (gone s14 n) e pr W
            · refine ⟨_, rfl, rfl, _, rfl, ifD (fun c0 => absurd (V.str.inj c0) (by decide +kernel)) (fun _ => ?_)⟩
              refine rdM (M.same s14) rfl rfl rfl hun hvn ⟨_, rfl, ifN (fun c3 => ?_) (fun c3 => go c3 rfl)⟩
              have W := wit_cograph S hi (show j < n by omega) (by omega) c hum hvm c3
              exact lstP (ix := [(6, 2), (2, 3), (3, 7), (6, 3), (2, 7), (6, 7)]) (vals := [(u, i), (i, j), (j, v), (u, j), (i, v), (u, v)]) (by simp) (.cons ⟨rfl, rfl⟩ (.cons ⟨rfl, rfl⟩ (.cons ⟨rfl, rfl⟩ (.cons ⟨rfl, rfl⟩ (.cons ⟨rfl, rfl⟩ (.cons ⟨rfl, rfl⟩ .nil))))))
                fun p us H' s n e pr => q1 p us _ H' (s14.trans s) (gone s14 n) e pr W
          · rintro σ H6 ⟨v6, rfl, rfl, nov⟩
            rw [List.length_map, List.take_length] at nov
            refine ⟨_, _, rfl, rfl, fun u' hu' v hv => ?_⟩
            rw [List.take_add_one, hu] at hu'
            rcases List.mem_append.mp hu' with h | h
            · exact nou u' h v hv
            · have e : u' = u := by simpa using h
              subst e
              exact nov v hv
        · rintro σ H5 ⟨v5, v6, rfl, rfl, nou⟩
          rw [List.length_map, List.take_length] at nou
          refine ⟨_, _, _, _, _, rfl, s14, fun y hy t => ?_⟩
          by_cases e : y = j
          · subst e
            exact nou
          · exact noj y (by omega) t
      · rintro σ H2 ⟨v2, v3, v4, v5, v6, rfl, s2, noj⟩
        rw [show ((i : Int)).toNat = i from Int.toNat_natCast i] at noj
        refine ⟨_, _, _, _, _, _, rfl, s2, fun x y hx hy => ?_⟩
        by_cases e : x = i
        · subst e
          exact noj y hy
        · exact no x y (by omega) hy
    · rintro σ H1 ⟨v1, v2, v3, v4, v5, v6, rfl, s1, no⟩
      rw [show (((rows.map V.ref).length : Nat) : Int).toNat = n by omega] at no
      exact q2 (fin no) H1 s1
end
end Ns

/-! Own layer: places of the kind split, walked. -/
namespace Ns
open PySem PySem.Spec PyProof.Rows L2
local macro_rules | `(tactic| walk_at "look") => `(tactic| first | assumption | exact upd_same | (refine (upd_ne (by first | assumption | exact Ne.symm (by assumption))).trans ?_; walk_at "look"))
local macro_rules | `(tactic| walk_at "cond") => `(tactic| first | assumption | omega | (dsimp only; omega) | exact ⟨by omega, by omega⟩ | decide | exact ⟨by decide, by decide, by decide⟩ | exact .inr ⟨by decide, by decide⟩ | exact .inl ⟨by decide, by decide⟩ | exact .inr ⟨by omega, by omega⟩ | exact .inl ⟨by omega, by omega⟩)
local macro_rules | `(tactic| walk_at "rd1") => `(tactic| first
  | refine ⟨_, rfl, ?_⟩
  | refine ⟨_, _, rfl, rfl, ?_⟩
  | refine ⟨rfl, ?_⟩
  | refine ⟨_, _, rfl, rfl, (by walk_at "cond"), ?_⟩
  | refine ⟨_, _, _, _, rfl, rfl, SqL.of (by walk_at "look"), rfl, ?_⟩
  | refine ⟨_, _, _, _, rfl, rfl, SqT.of (by walk_at "look"), rfl, ?_⟩
  | refine ⟨_, _, _, _, rfl, rfl, (by walk_at "look"), rfl, ?_⟩
  | refine .inl ⟨_, rfl, ?_⟩
  | refine ⟨.inl ⟨rfl, _, SqL.of (by walk_at "look")⟩, ?_⟩
  | refine ⟨_, _, rfl, ⟨by omega, by omega, by omega, by omega⟩, ?_⟩
  | refine ⟨_, rfl, (by omega), (by omega), ?_⟩
  | refine And.intro (by walk_at "cond") ?_)
local macro_rules | `(tactic| walk_at "rd") => `(tactic| repeat (walk_at "rd1"))

section
variable {P : Program} {w : World} {K : PySem.W.Frag} {mg : Str → Option Value} {base : Heap}
/-! ### all pairs of some points -/
def sp_all_pairs : Sp := fun vs H Q _ => ∃ (a : Addr) (pts : List Nat), vs = [.ref a] ∧ H a = some (.lst (pts.map pI)) ∧ pts.length ≤ 100 ∧
  ∀ (p : Addr) (us : List V) H', Same H H' → H p = none → H' p = some (.lst us) → Paired (Pr H') us (allP pts) → Q (.ref p) H'
theorem cal_all_pairs (A : At K mg "all_pairs" s_all_pairs) (B : Bi mg) : Cal P w K mg base 1 "all_pairs" sp_all_pairs := by
  have nd := sc_all_pairs.nd
  refine A.cal sc_all_pairs (fun _ _ _ _ _ _ us hl => match us, hl with | [_], _ => rfl) ?_ fun f cdv A' outer s H vs Q E hr h => ⟨_, (pss_cons (ps_set (i := 1) nd rfl (.inl rfl) (pe_lst pa_nil))
  (pss_cons (ps_for passOwn rfl (pi_enumK (K := K) rfl (by rfl) B.enumerate (pa_cons (pv 0) pa_nil)) (pg_tupK (K := K) (n := 2) rfl rfl (pgs_cons (pg_name (i := 2) nd rfl (.inl rfl)) (pgs_cons (pg_name (i := 3) nd rfl (.inr rfl)) pgs_nil))) (pss_one (ps_expr (pe_bm PySem.F.plainAttrs_list PySem.F.slot_list_extend PySem.F.type_list_extend mt_extend (pv 1) (pa_cons (pe_lc (own := [("y", 4)]) rfl nd (pi_listK (K := K) rfl (pe_slice (sl_listK (K := K) rfl) (pv 0) po_none (po_some (pv 2)))) (blkOk_by (own := [("y", 4)]) (N := N_all_pairs) (sc := defScope s_all_pairs) (by decide +kernel)) (fun _ _ _ _ _ => (pg_name (i := 4) nd rfl (.inl rfl) (.inr rfl))) (fun _ _ _ _ _ => pts_nil) (fun _ _ _ _ _ => (pe_tup (pa_cons (pv 3) (pa_cons (pv 4) pa_nil))))) pa_nil)))))
  (pss_one (ps_ret (pv 1))))), ?_⟩
  · rintro vs H Q E ⟨a, pts, rfl, _⟩
    rfl
  · obtain ⟨a, pts, rfl, ha, hn, q⟩ := h
    refine ⟨Nat.zero_le _, fun p hp => ?_⟩
    have sp := same_laid (o := .lst []) hp
    refine ⟨_, rfl, a, _, rfl, SqL.of (sp _ _ ha), ?_⟩
    refine for_it (walk_enum (K := K) (a := a) (xs := pts.map pI)) (fun i σ H1 => ∃ v2 v3, σ = [some (.ref a), some (.ref p), v2, v3, none] ∧ Same H H1 ∧ ∃ us, H1 p = some (.lst us) ∧ Paired (Pr H1) us ((List.range i).flatMap fun k => (pts.take k).map fun y => (pts.getD k 0, y)) ∧ us.length ≤ i * 100)
      ⟨none, none, rfl, sp, [], upd_same, .nil, by simp⟩ (fun i σ H1 _ ⟨_, _, _, s1, _⟩ => SqL.of (s1 _ _ ha)) ?_ ?_
    · rintro i x σ H1 H2 hi ⟨v2, v3, rfl, s1, us, hu, pr, hlu⟩ ⟨t, e1, e2, rfl, nt, rfl, h3, h4⟩
      have hi : i < pts.length := by rw [List.length_map] at hi; exact hi
      have e3 : V.int (i : Nat) = e1 := Option.some.inj h3
      subst e3
      have e4 : pI (pts.getD i 0) = e2 := by
        have h4 : (pts.map pI)[i]? = some e2 := h4
        rw [List.getElem?_map, List.getElem?_eq_getElem hi] at h4
        have := Option.some.inj h4
        rw [List.getD_eq_getElem?_getD, List.getElem?_eq_getElem hi]
        exact this
      subst e4
      have s2 := sNew s1 (o := .tup [.int (i : Nat), pI (pts.getD i 0)]) nt
      have u2 := same_laid (o := .tup [.int (i : Nat), pI (pts.getD i 0)]) nt
      refine ⟨t, _, rfl, SqT.of upd_same, rfl, _, _, rfl, _, _, rfl, rfl, ?_⟩
      refine ⟨_, rfl, .inl ⟨rfl, _, SqL.of (u2 _ _ hu)⟩, _, rfl, _, rfl, _, rfl, a, _, rfl, SqL.of (s2 _ _ ha), fun p3 hp3 => ?_⟩
      rw [cutV_take]
      refine ⟨p3, rfl, ⟨_, SqL.of upd_same⟩, fun D hD => ?_⟩
      refine comp_list (K := K) (ds := pts.take i) persPt (fun y => some (pts.getD i 0, y)) persPr hD (SqL.of upd_same) (by rw [List.length_take, List.length_map]; exact sizeBig (by omega)) (by rw [← List.map_take]; exact pairedPt _ _) ?_ ?_
      · rintro y v H4 Yes No hy rfl s4 yes no
        refine ⟨rfl, ?_⟩
        refine ⟨_, rfl, _, rfl, by show 2 ≤ sizeLine; decide, fun t5 h5 => ?_⟩
        exact yes _ rfl _ _ (same_laid h5) ⟨t5, rfl, upd_same⟩
      · intro H4 ys s4 hy4 pr4
        rw [show (pts.take i).filterMap (fun y => some (pts.getD i 0, y)) = (pts.take i).map fun y => (pts.getD i 0, y) by rw [← List.filterMap_eq_map]; rfl] at pr4
        have u3 := same_laid (o := .lst ((pts.map pI).take i)) hp3
        have s24 := u2.trans (u3.trans s4)
        have hu4 := s24 _ _ hu
        have l4 := pr4.length
        rw [List.length_map, List.length_take] at l4
        refine ⟨p, _, _, _, rfl, rfl, hu4, hy4, Nat.le_of_lt (sizeBig ?_), ?_⟩
        · have : i * 100 ≤ 100 * 100 := Nat.mul_le_mul (by omega) (Nat.le_refl _)
          omega
        have kt : KeepT H4 (upd H4 p (.lst (us ++ ys))) := KeepT.lst hu4
        refine ⟨_, _, rfl, sPut (s1.trans s24) hp, _, upd_same, ?_, ?_⟩
        · rw [List.range_succ, List.flatMap_append]
          refine pApp (pMono persPr ((sKt s24).trans kt) pr) ?_
          simpa using pMono persPr kt pr4
        · rw [List.length_append, Nat.succ_mul]
          omega
    · rintro σ H1 ⟨v2, v3, rfl, s1, us, hu, pr, hlu⟩
      rw [List.length_map] at pr
      exact ⟨_, rfl, q p us H1 s1 hp hu pr⟩
/-! ### split -/
def apartL (n : Nat) (T : Tm) (st : Bool) (x y : Nat) : List Nat := (List.range n).filter fun z => !decide (z = x ∨ z = y) && (T x z != st) && (T y z != st)
theorem mem_apartL {n : Nat} {T : Tm} {st : Bool} {x y z : Nat} : z ∈ apartL n T st x y ↔ z < n ∧ z ≠ x ∧ z ≠ y ∧ T x z ≠ st ∧ T y z ≠ st := by
  unfold apartL
  rw [List.mem_filter, List.mem_range, Bool.and_eq_true, Bool.and_eq_true, bne_iff_ne, bne_iff_ne, Bool.not_eq_true', decide_eq_false_iff_not, not_or]
  exact ⟨fun ⟨a, ⟨⟨b, c⟩, d⟩, e⟩ => ⟨a, b, c, d, e⟩, fun ⟨a, b, c, d, e⟩ => ⟨a, ⟨⟨b, c⟩, d⟩, e⟩⟩
def lastL (n : Nat) (T : Tm) (x y u v : Nat) : List Nat := (List.range n).filter fun z => T u z && T v z && !T x z && !T y z
theorem mem_lastL {n : Nat} {T : Tm} {x y u v z : Nat} : z ∈ lastL n T x y u v ↔ z < n ∧ T u z = true ∧ T v z = true ∧ T x z = false ∧ T y z = false := by
  unfold lastL
  rw [List.mem_filter, List.mem_range, Bool.and_eq_true, Bool.and_eq_true, Bool.and_eq_true, Bool.not_eq_true', Bool.not_eq_true']
  exact ⟨fun ⟨a, ⟨⟨b, c⟩, d⟩, e⟩ => ⟨a, b, c, d, e⟩, fun ⟨a, b, c, d, e⟩ => ⟨a, ⟨⟨b, c⟩, d⟩, e⟩⟩
theorem filt_len {α : Type} (p : α → Bool) (l : List α) (n : Nat) (h : l.length = n) : (l.filter p).length ≤ n := by
  have := List.length_filter_le p l
  omega
def No4 (n : Nat) (T : Tm) (st : Bool) (x y : Nat) : Prop := T x y = st → ∀ u ∈ apartL n T st x y, ∀ v ∈ apartL n T st x y, u < v → T u v ≠ st
def No5 (n : Nat) (T : Tm) (x y : Nat) : Prop := T x y = true → ∀ u ∈ onlyL n T x y, ∀ v ∈ onlyL n T y x, T u v = false → lastL n T x y u v = []
theorem cal_unsplit (A : At K mg "unsplit" s_unsplit) (B : Bi mg) (c_only : Cal P w K mg base 1 "only" sp_only) (c_all_pairs : Cal P w K mg base 1 "all_pairs" sp_all_pairs) : Cal P w K mg base 2 "unsplit" (sp_place .split) := by
  have nd := sc_unsplit.nd
  refine A.cal sc_unsplit (fun _ _ _ _ _ _ us hl => match us, hl with | [_], _ => rfl) ?_ fun f cdv A' outer s H vs Q E hr h => ⟨_, (pss_cons (ps_set (i := 1) nd rfl (.inl rfl) (pe_callTy cr_range1 (by rfl) B.range (by decide +kernel) (pa_cons (pe_callB (call_lenK (K := K) rfl) (by rfl) B.len (by decide +kernel) (pa_cons (pv 0) pa_nil)) pa_nil)))
  (pss_cons (ps_for passOwn rfl (pi_tupK (K := K) rfl (pe_tup (pa_cons pe_bl (pa_cons pe_bl pa_nil)))) (pg_name (i := 2) nd rfl (.inr rfl)) (pss_one (ps_for passOwn rfl (pi_rngV (pv 1)) (pg_name (i := 3) nd rfl (.inr rfl)) (pss_one (ps_for passOwn rfl (pi_range1 (by rfl) B.range (pa_cons (pv 3) pa_nil)) (pg_name (i := 4) nd rfl (.inr rfl)) (pss_cons (ps_if (pt_cmpR op_ne (pe_ix (ix_listK (K := K) rfl) (pe_ix (ix_listK (K := K) rfl) (pv 0) (pv 3) (fun _ _ => rfl)) (pv 4) (fun _ _ => rfl)) (pv 2) (nomark _)) (pss_one ps_continue) pss_nil)
  (pss_cons (ps_setLc (i := 5) (own := [("z", 9)]) rfl nd rfl rfl (sw_true rfl rfl rfl (by decide +kernel)) (pi_rngV (pv 1)) (blkOk_by (own := [("z", 9)]) (N := N_unsplit) (sc := defScope s_unsplit) (by decide +kernel)) (fun _ _ _ _ _ => (pg_name (i := 9) nd rfl (.inl rfl) (.inr rfl))) (fun _ _ _ _ _ => (pts_one (PW.pt (pw_and (pt_cmpR (op_notIn_seqK (K := K) rfl) (pv 9) (pe_tup (pa_cons (pv 3) (pa_cons (pv 4) pa_nil))) rfl) (pw_and (pt_cmpR op_ne (pe_ix (ix_listK (K := K) rfl) (pe_ix (ix_listK (K := K) rfl) (pv 0) (pv 3) (fun _ _ => rfl)) (pv 9) (fun _ _ => rfl)) (pv 2) (nomark _)) (pw_and1 (pt_cmpR op_ne (pe_ix (ix_listK (K := K) rfl) (pe_ix (ix_listK (K := K) rfl) (pv 0) (pv 4) (fun _ _ => rfl)) (pv 9) (fun _ _ => rfl)) (pv 2) (nomark _)))))))) (fun _ _ _ _ _ => (pv 9)))
  (pss_one (ps_for passOwn rfl (pi_listK (K := K) rfl (pv 5)) (pg_name (i := 6) nd rfl (.inr rfl)) (pss_one (ps_for passOwn rfl (pi_listK (K := K) rfl (pv 5)) (pg_name (i := 7) nd rfl (.inr rfl)) (pss_one (ps_if (PW.pt (pw_and (pt_cmpR op_lt (pv 6) (pv 7) (nomark _)) (pw_and1 (pt_cmpR op_eq (pe_ix (ix_listK (K := K) rfl) (pe_ix (ix_listK (K := K) rfl) (pv 0) (pv 6) (fun _ _ => rfl)) (pv 7) (fun _ _ => rfl)) (pv 2) (nomark _))))) (pss_one (ps_ret (pe_cal c_all_pairs hr (by first | decide | omega) (by rfl) passE (pa_cons (pe_lst (pa_cons (pv 3) (pa_cons (pv 4) (pa_cons (pv 6) (pa_cons (pv 7) pa_nil))))) pa_nil)))) pss_nil)))))))))))))
  (pss_cons (ps_for passOwn rfl (pi_rngV (pv 1)) (pg_name (i := 3) nd rfl (.inr rfl)) (pss_one (ps_for passOwn rfl (pi_range1 (by rfl) B.range (pa_cons (pv 3) pa_nil)) (pg_name (i := 4) nd rfl (.inr rfl)) (pss_one (ps_if (pt_val (pe_ix (ix_listK (K := K) rfl) (pe_ix (ix_listK (K := K) rfl) (pv 0) (pv 3) (fun _ _ => rfl)) (pv 4) (fun _ _ => rfl))) (pss_one (ps_for passOwn rfl (pi_listK (K := K) rfl (pe_cal c_only hr (by first | decide | omega) (by rfl) passE (pa_cons (pv 0) (pa_cons (pv 3) (pa_cons (pv 4) pa_nil))))) (pg_name (i := 6) nd rfl (.inr rfl)) (pss_one (ps_for passOwn rfl (pi_listK (K := K) rfl (pe_cal c_only hr (by first | decide | omega) (by rfl) passE (pa_cons (pv 0) (pa_cons (pv 4) (pa_cons (pv 3) pa_nil))))) (pg_name (i := 7) nd rfl (.inr rfl)) (pss_cons (ps_setLc (i := 8) (own := [("z", 9)]) rfl nd rfl rfl (sw_true rfl rfl rfl (by decide +kernel)) (pi_rngV (pv 1)) (blkOk_by (own := [("z", 9)]) (N := N_unsplit) (sc := defScope s_unsplit) (by decide +kernel)) (fun _ _ _ _ _ => (pg_name (i := 9) nd rfl (.inl rfl) (.inr rfl))) (fun _ _ _ _ _ => (pts_one (PW.pt (pw_and (pt_val (pe_ix (ix_listK (K := K) rfl) (pe_ix (ix_listK (K := K) rfl) (pv 0) (pv 6) (fun _ _ => rfl)) (pv 9) (fun _ _ => rfl))) (pw_and (pt_val (pe_ix (ix_listK (K := K) rfl) (pe_ix (ix_listK (K := K) rfl) (pv 0) (pv 7) (fun _ _ => rfl)) (pv 9) (fun _ _ => rfl))) (pw_and (pt_not (pt_val (pe_ix (ix_listK (K := K) rfl) (pe_ix (ix_listK (K := K) rfl) (pv 0) (pv 3) (fun _ _ => rfl)) (pv 9) (fun _ _ => rfl)))) (pw_and1 (pt_not (pt_val (pe_ix (ix_listK (K := K) rfl) (pe_ix (ix_listK (K := K) rfl) (pv 0) (pv 4) (fun _ _ => rfl)) (pv 9) (fun _ _ => rfl))))))))))) (fun _ _ _ _ _ => (pv 9)))
  (pss_one (ps_if (PW.pt (pw_and (pt_not (pt_val (pe_ix (ix_listK (K := K) rfl) (pe_ix (ix_listK (K := K) rfl) (pv 0) (pv 6) (fun _ _ => rfl)) (pv 7) (fun _ _ => rfl)))) (pw_and1 (pt_truthK (K := K) rfl (pv 8) (by intro _; rfl))))) (pss_one (ps_ret (pe_cal c_all_pairs hr (by first | decide | omega) (by rfl) passE (pa_cons (pe_lst (pa_cons (pv 3) (pa_cons (pv 4) (pa_cons (pv 6) (pa_cons (pv 7) (pa_cons (pe_ix (ix_listK (K := K) rfl) (pv 8) pe_int (fun _ _ => rfl)) pa_nil)))))) pa_nil)))) pss_nil))))))) pss_nil)))))
  (pss_one (ps_ret pe_non))))), ?_⟩
  · rintro vs H Q E ⟨m, rows, n, T, rfl, _⟩
    rfl
  · obtain ⟨m, rows, n, T, rfl, M, S, hn, q1, q2⟩ := h
    have hl : (rows.map V.ref).length = n := by rw [List.length_map, M.len]
    refine ⟨_, rfl, _, _, rfl, .inl ⟨_, SqL.of M.top, rfl⟩, _, rfl, fun pr hpr => ?_⟩
    rw [hl]
    have s0 := same_laid (o := .rng 0 (n : Int)) hpr
    have hr0 : (upd H pr (.rng 0 (n : Int))) pr = some (.rng 0 (n : Int)) := upd_same
    have rb : (-(2 ^ 62) ≤ (0 : Int) ∧ (0 : Int) < 2 ^ 62 ∧ -(2 ^ 62) ≤ (n : Int) ∧ (n : Int) < 2 ^ 62) := by omega
    refine ⟨by show 2 ≤ sizeLine; decide, fun pt hpt => ⟨pt, rfl, ⟨_, SqT.of upd_same⟩, ?_⟩⟩
    have s00 := sNew s0 (o := .tup [.bl true, .bl false]) hpt
    have hr1 := same_laid (o := .tup [.bl true, .bl false]) hpt _ _ hr0
    have ht1 : (upd (upd H pr (.rng 0 (n : Int))) pt (.tup [.bl true, .bl false])) pt = some (.tup [.bl true, .bl false]) := upd_same
    refine for_tup (K := K) (a := pt) (xs := [.bl true, .bl false]) (fun i σ H1 => ∃ v2 v3 v4 v5 v6 v7, σ = [some (.ref m), some (.ref pr), v2, v3, v4, v5, v6, v7, none, none] ∧ Same H H1 ∧ H1 pr = some (.rng 0 (n : Int)) ∧ H1 pt = some (.tup [.bl true, .bl false]) ∧ ∀ st ∈ [true, false].take i, ∀ x y, x < n → y < x → No4 n T st x y)
      ⟨none, none, none, none, none, none, rfl, s00, hr1, ht1, fun st h => by simp at h⟩ (fun i σ H1 _ ⟨_, _, _, _, _, _, _, _, _, h, _⟩ => SqT.of h) ?_ ?_
    · rintro i v σ H1 hv ⟨v2, v3, v4, v5, v6, v7, rfl, s1, hpr1, hpt1, no⟩
      obtain ⟨st, hst, rfl⟩ : ∃ st, [true, false][i]? = some st ∧ v = V.bl st := by
        match i, hv with
        | 0, hv => exact ⟨true, rfl, (Option.some.inj hv).symm⟩
        | 1, hv => exact ⟨false, rfl, (Option.some.inj hv).symm⟩
      refine ⟨_, rfl, pr, 0, n, rfl, hpr1, rb, ?_⟩
      refine for_range (lo := 0) (n := ((n : Int) - 0).toNat) (fun x σ H2 => ∃ v3 v4 v5 v6 v7, σ = [some (.ref m), some (.ref pr), some (.bl st), v3, v4, v5, v6, v7, none, none] ∧ Same H1 H2 ∧ ∀ x' y, x' < x → y < x' → No4 n T st x' y) ⟨v3, v4, v5, v6, v7, rfl, Same.refl _, fun x' y h => absurd h (Nat.not_lt_zero x')⟩ ?_ ?_
      · rintro x σ H2 hx ⟨v3, v4, v5, v6, v7, rfl, s2, nox⟩
        have hx : x < n := by omega
        rw [Int.zero_add]
        refine ⟨_, rfl, _, rfl, by omega, by omega, ?_⟩
        refine for_range (lo := 0) (n := (x : Int).toNat) (fun y σ H3 => ∃ v4 v5 v6 v7, σ = [some (.ref m), some (.ref pr), some (.bl st), some (pI x), v4, v5, v6, v7, none, none] ∧ Same H1 H3 ∧ ∀ y', y' < y → No4 n T st x y') ⟨v4, v5, v6, v7, rfl, s2, fun y' h => absurd h (Nat.not_lt_zero y')⟩ ?_ ?_
        · rintro y σ H3 hy ⟨v4, v5, v6, v7, rfl, s3, noy⟩
          have hy : y < x := by omega
          have hyn : y < n := by omega
          have s13 := s1.trans s3
          have M3 := M.same s13
          rw [Int.zero_add]
          have ext : ∀ {H4 : Hp} {v5 v6 v7 : Option V}, Same H1 H4 → No4 n T st x y → ∃ v4' v5' v6' v7', [some (V.ref m), some (V.ref pr), some (V.bl st), some (pI x), some (pI y), v5, v6, v7, none, none] = [some (.ref m), some (.ref pr), some (.bl st), some (pI x), v4', v5', v6', v7', none, none] ∧ Same H1 H4 ∧ ∀ y', y' < y + 1 → No4 n T st x y' := fun s4 nn => by
            refine ⟨_, _, _, _, rfl, s4, fun y' h => ?_⟩
            by_cases e : y' = y
            · subst e
              exact nn
            · exact noy y' (by omega)
          refine rdM M3 rfl rfl rfl hx hyn ⟨_, rfl, rfl, _, rfl, ifN (fun c => ?_) (fun c => ?_)⟩
          · exact ext s3 fun t => absurd (congrArg V.bl t) (of_decide_eq_false c)
          have t1 : T x y = st := V.bl.inj (of_decide_eq_true c)
          refine ⟨_, rfl, pr, 0, n, rfl, s3 _ _ hpr1, rb, fun D hD => ?_⟩
          refine comp_range (lo := 0) (n := ((n : Int) - 0).toNat) (sizeBig (by omega)) (fun z => if (!decide (z = x ∨ z = y) && (T x z != st) && (T y z != st)) = true then some z else none) persPt hD ?_ ?_
          · intro z H4 Yes No hz s4 yes no'
            have hz : z < n := by omega
            rw [Int.zero_add]
            have fin : ∀ H5, Same H4 H5 → (if (!decide (z = x ∨ z = y) && (T x z != st) && (T y z != st)) = true then Yes (.int z) H5 else No H5) := fun H5 s5 => by
              by_cases hc : (!decide (z = x ∨ z = y) && (T x z != st) && (T y z != st)) = true
              · rw [if_pos hc]
                exact yes _ (if_pos hc) _ _ s5 rfl
              · rw [if_neg hc]
                exact no' (if_neg hc) _ s5
            refine ⟨rfl, _, rfl, _, rfl, _, rfl, by show 2 ≤ sizeLine; decide, fun t5 h5 => ⟨t5, _, rfl, .inr (SqT.of upd_same), rfl, rfl, _, rfl, ?_⟩⟩
            have s5 := same_laid (o := .tup [pI x, pI y]) h5
            have M5 := M3.same (s4.trans s5)
            have fin := fin _ s5
            have ein : inV (.int z) [pI x, pI y] = decide (z = x ∨ z = y) := by
              show ((x : Int) == (z : Int) || ((y : Int) == (z : Int) || false)) = _
              rw [Bool.eq_iff_iff, Bool.or_false, Bool.or_eq_true, beq_iff_eq, beq_iff_eq, decide_eq_true_eq]
              omega
            refine ifB (fun c1 => ?_) (fun c1 => ?_)
            · have c1 : (!inV (.int z) [pI x, pI y]) = true := c1
              rw [ein] at c1
              refine rdM M5 rfl rfl rfl hx hz ⟨_, rfl, rfl, _, rfl, ifN (fun c2 => ?_) (fun c2 => ?_)⟩
              · have d2 : (T x z != st) = true := bne_iff_ne.mpr fun e => of_decide_eq_false c2 (congrArg V.bl e)
                refine rdM M5 rfl rfl rfl hyn hz ⟨_, rfl, rfl, _, rfl, ifN (fun c3 => ?_) (fun c3 => ?_)⟩
                · have d3 : (T y z != st) = true := bne_iff_ne.mpr fun e => of_decide_eq_false c3 (congrArg V.bl e)
                  rw [c1, d2, d3] at fin
                  exact ⟨_, rfl, fin⟩
                · have d3 : (T y z != st) = false := by rw [V.bl.inj (of_decide_eq_true c3)]; simp
                  rw [c1, d2, d3] at fin
                  exact fin
              · have d2 : (T x z != st) = false := by rw [V.bl.inj (of_decide_eq_true c2)]; simp
                rw [c1, d2] at fin
                exact fin
            · have c1 : (!inV (.int z) [pI x, pI y]) = false := c1
              rw [ein] at c1
              rw [c1] at fin
              exact fin
          · intro H4 ys s4 hy4 pr4
            rw [fm_id, show ((n : Int) - 0).toNat = n by omega] at pr4
            have eys := pairedPt_eq pr4
            subst eys
            have hD4 : H4 D = some (.lst ((apartL n T st x y).map pI)) := hy4
            have s34 := s3.trans s4
            have s04 := s1.trans s34
            have al := filt_len (fun z => !decide (z = x ∨ z = y) && (T x z != st) && (T y z != st)) (List.range n) n List.length_range
            refine ⟨_, rfl, D, rfl, ⟨_, SqL.of hD4⟩, for_list (K := K) (a := D) (xs := (apartL n T st x y).map pI) (fun a σ H5 => ∃ v6 v7, σ = [some (.ref m), some (.ref pr), some (.bl st), some (pI x), some (pI y), some (.ref D), v6, v7, none, none] ∧ H5 = H4 ∧ ∀ u ∈ (apartL n T st x y).take a, ∀ v ∈ apartL n T st x y, u < v → T u v ≠ st)
              ⟨v6, v7, rfl, rfl, fun u hu => by simp at hu⟩ (fun a σ H5 _ ⟨_, _, _, e, _⟩ => by rw [e]; exact SqL.of hD4) ?_ ?_⟩
            · rintro a uv σ H5 hux ⟨v6, v7, rfl, rfl, nou⟩
              rw [List.getElem?_map] at hux
              obtain ⟨u, hu, rfl⟩ := Option.map_eq_some_iff.mp hux
              have hum := mem_apartL.mp (List.mem_of_getElem? hu)
              refine ⟨_, rfl, D, rfl, ⟨_, SqL.of hD4⟩, for_list (K := K) (a := D) (xs := (apartL n T st x y).map pI) (fun b σ H6 => ∃ v7, σ = [some (.ref m), some (.ref pr), some (.bl st), some (pI x), some (pI y), some (.ref D), some (pI u), v7, none, none] ∧ H6 = H5 ∧ ∀ v ∈ (apartL n T st x y).take b, u < v → T u v ≠ st)
                ⟨v7, rfl, rfl, fun v hv => by simp at hv⟩ (fun b σ H6 _ ⟨_, _, e, _⟩ => by rw [e]; exact SqL.of hD4) ?_ ?_⟩
              · rintro b vv σ H6 hvx ⟨v7, rfl, rfl, nov⟩
                rw [List.getElem?_map] at hvx
                obtain ⟨v, hv, rfl⟩ := Option.map_eq_some_iff.mp hvx
                have hvm := mem_apartL.mp (List.mem_of_getElem? hv)
                have ext2 : (u < v → T u v ≠ st) → ∃ v7', [some (V.ref m), some (V.ref pr), some (V.bl st), some (pI x), some (pI y), some (V.ref D), some (pI u), some (pI v), none, none] = [some (.ref m), some (.ref pr), some (.bl st), some (pI x), some (pI y), some (.ref D), some (pI u), v7', none, none] ∧ H6 = H6 ∧ ∀ v' ∈ (apartL n T st x y).take (b + 1), u < v' → T u v' ≠ st := fun nn => by
                  refine ⟨_, rfl, rfl, fun v' hv' => ?_⟩
                  rw [List.take_add_one, hv] at hv'
                  rcases List.mem_append.mp hv' with h | h
                  · exact nov v' h
                  · have e : v' = v := by simpa using h
                    subst e
                    exact nn
                refine ⟨_, rfl, _, rfl, _, _, rfl, rfl, _, rfl, ifD (fun c1 => ?_) (fun c1 => ?_)⟩
                · have huv : u < v := by omega
                  refine rdM (M.same s04) rfl rfl rfl hum.1 hvm.1 ⟨_, rfl, rfl, _, rfl, ifD (fun c2 => ?_) (fun c2 => ?_)⟩
                  · have t6 : T u v = st := V.bl.inj c2
                    refine ⟨_, rfl, _, rfl, _, rfl, _, rfl, by show 4 ≤ sizeLine; decide, fun p7 h7 => ?_⟩
                    refine ⟨p7, [x, y, u, v], rfl, upd_same, by simp, fun p8 us H8 s8 n8 h8 pr8 => ?_⟩
                    have s7 := sNew s04 (o := .lst [pI x, pI y, pI u, pI v]) h7
                    have nd4 : [x, y, u, v].Nodup := by
                      simp only [List.nodup_cons, List.mem_cons, List.not_mem_nil, or_false, not_or, List.nodup_nil, and_true, not_false_eq_true]
                      exact ⟨⟨by omega, hum.2.1.symm, hvm.2.1.symm⟩, ⟨hum.2.2.1.symm, hvm.2.2.1.symm⟩, by omega⟩
                    exact q1 p8 us _ H8 (s7.trans s8) (gone s7 n8) h8 pr8 (wit_split4 S hx hyn hum.1 hvm.1 nd4 t1 hum.2.2.2.1 hum.2.2.2.2 hvm.2.2.2.1 hvm.2.2.2.2 t6)
                  · exact ext2 fun _ t => c2 (congrArg V.bl t)
                · exact ext2 fun h => absurd h (by omega)
              · rintro σ H6 ⟨v7, rfl, rfl, nov⟩
                rw [List.length_map, List.take_length] at nov
                refine ⟨_, _, rfl, rfl, fun u' hu' v hv => ?_⟩
                rw [List.take_add_one, hu] at hu'
                rcases List.mem_append.mp hu' with h | h
                · exact nou u' h v hv
                · have e : u' = u := by simpa using h
                  subst e
                  exact nov v hv
            · rintro σ H5 ⟨v6, v7, rfl, rfl, nou⟩
              rw [List.length_map, List.take_length] at nou
              exact ext s34 fun _ => nou
        · rintro σ H3 ⟨v4, v5, v6, v7, rfl, s3, noy⟩
          rw [show ((x : Int)).toNat = x from Int.toNat_natCast x] at noy
          refine ⟨_, _, _, _, _, rfl, s3, fun x' y hx' hy' => ?_⟩
          by_cases e : x' = x
          · subst e
            exact noy y hy'
          · exact nox x' y (by omega) hy'
      · rintro σ H2 ⟨v3, v4, v5, v6, v7, rfl, s2, nox⟩
        rw [show ((n : Int) - 0).toNat = n by omega] at nox
        refine ⟨_, _, _, _, _, _, rfl, s1.trans s2, s2 _ _ hpr1, s2 _ _ hpt1, fun st' h => ?_⟩
        rw [List.take_add_one, hst] at h
        rcases List.mem_append.mp h with h | h
        · exact no st' h
        · have e : st' = st := by simpa using h
          subst e
          exact nox
    · rintro σ H1 ⟨v2, v3, v4, v5, v6, v7, rfl, s1, hpr1, hpt1, no⟩
      have no4 : ∀ st x y, x < n → y < x → No4 n T st x y := fun st => no st (by cases st <;> simp)
      refine ⟨_, rfl, pr, 0, n, rfl, hpr1, rb, ?_⟩
      refine for_range (lo := 0) (n := ((n : Int) - 0).toNat) (fun x σ H2 => ∃ v2 v3 v4 v5 v6 v7 v8, σ = [some (.ref m), some (.ref pr), v2, v3, v4, v5, v6, v7, v8, none] ∧ Same H1 H2 ∧ ∀ x' y, x' < x → y < x' → No5 n T x' y) ⟨v2, v3, v4, v5, v6, v7, none, rfl, Same.refl _, fun x' y h => absurd h (Nat.not_lt_zero x')⟩ ?_ ?_
      · rintro x σ H2 hx ⟨v2, v3, v4, v5, v6, v7, v8, rfl, s2, nox⟩
        have hx : x < n := by omega
        rw [Int.zero_add]
        refine ⟨_, rfl, _, rfl, by omega, by omega, ?_⟩
        refine for_range (lo := 0) (n := (x : Int).toNat) (fun y σ H3 => ∃ v4 v6 v7 v8, σ = [some (.ref m), some (.ref pr), v2, some (pI x), v4, v5, v6, v7, v8, none] ∧ Same H1 H3 ∧ ∀ y', y' < y → No5 n T x y') ⟨v4, v6, v7, v8, rfl, s2, fun y' h => absurd h (Nat.not_lt_zero y')⟩ ?_ ?_
        · rintro y σ H3 hy ⟨v4, v6, v7, v8, rfl, s3, noy⟩
          have hy : y < x := by omega
          have hyn : y < n := by omega
          have s13 := s1.trans s3
          rw [Int.zero_add]
          have ext : ∀ {H4 : Hp} {v6 v7 v8 : Option V}, Same H1 H4 → No5 n T x y → ∃ v4' v6' v7' v8', [some (V.ref m), some (V.ref pr), v2, some (pI x), some (pI y), v5, v6, v7, v8, none] = [some (.ref m), some (.ref pr), v2, some (pI x), v4', v5, v6', v7', v8', none] ∧ Same H1 H4 ∧ ∀ y', y' < y + 1 → No5 n T x y' := fun s4 nn => by
            refine ⟨_, _, _, _, rfl, s4, fun y' h => ?_⟩
            by_cases e : y' = y
            · subst e
              exact nn
            · exact noy y' (by omega)
          refine rdM (M.same s13) rfl rfl rfl hx hyn ⟨_, rfl, ifB (fun c => ?_) (fun c => ?_)⟩
          · refine ⟨_, rfl, _, rfl, _, rfl, m, rows, n, x, y, T, rfl, M.same s13, hx, hyn, hn, fun p1 H4 s4 np1 hp1 => ?_⟩
            have ol1 := only_len n T x y
            have ol2 := only_len n T y x
            refine ⟨p1, rfl, ⟨_, SqL.of hp1⟩, for_list (K := K) (a := p1) (xs := (onlyL n T x y).map pI) (fun a σ H5 => ∃ v6 v7 v8, σ = [some (.ref m), some (.ref pr), v2, some (pI x), some (pI y), v5, v6, v7, v8, none] ∧ Same H4 H5 ∧ ∀ u ∈ (onlyL n T x y).take a, ∀ v ∈ onlyL n T y x, T u v = false → lastL n T x y u v = [])
              ⟨v6, v7, v8, rfl, Same.refl _, fun u hu => by simp at hu⟩ (fun a σ H5 _ ⟨_, _, _, _, s, _⟩ => SqL.of (s _ _ hp1)) ?_ ?_⟩
            · rintro a uv σ H5 hux ⟨v6, v7, v8, rfl, s5, nou⟩
              rw [List.getElem?_map] at hux
              obtain ⟨u, hu, rfl⟩ := Option.map_eq_some_iff.mp hux
              have hum := List.mem_of_getElem? hu
              have hun := (mem_onlyL.mp hum).1
              have s15 := (s13.trans s4).trans s5
              refine ⟨_, rfl, _, rfl, _, rfl, m, rows, n, y, x, T, rfl, M.same s15, hyn, hx, hn, fun p2 H6 s6 np2 hp2 => ?_⟩
              refine ⟨p2, rfl, ⟨_, SqL.of hp2⟩, for_list (K := K) (a := p2) (xs := (onlyL n T y x).map pI) (fun b σ H7 => ∃ v7 v8, σ = [some (.ref m), some (.ref pr), v2, some (pI x), some (pI y), v5, some (pI u), v7, v8, none] ∧ Same H6 H7 ∧ ∀ v ∈ (onlyL n T y x).take b, T u v = false → lastL n T x y u v = [])
                ⟨v7, v8, rfl, Same.refl _, fun v hv => by simp at hv⟩ (fun b σ H7 _ ⟨_, _, _, s, _⟩ => SqL.of (s _ _ hp2)) ?_ ?_⟩
              · rintro b vv σ H7 hvx ⟨v7, v8, rfl, s7, nov⟩
                rw [List.getElem?_map] at hvx
                obtain ⟨v, hv, rfl⟩ := Option.map_eq_some_iff.mp hvx
                have hvm := List.mem_of_getElem? hv
                have hvn := (mem_onlyL.mp hvm).1
                have s17 := (s15.trans s6).trans s7
                have s37 := ((s3.trans s4).trans s5).trans (s6.trans s7)
                refine ⟨_, rfl, pr, 0, n, rfl, s37 _ _ hpr1, rb, fun D hD => ?_⟩
                refine comp_range (lo := 0) (n := ((n : Int) - 0).toNat) (sizeBig (by omega)) (fun z => if (T u z && T v z && !T x z && !T y z) = true then some z else none) persPt hD ?_ ?_
                · intro z H8 Yes No hz s8 yes no'
                  have hz : z < n := by omega
                  rw [Int.zero_add]
                  have M8 := M.same (s17.trans s8)
                  have fin : (if (T u z && T v z && !T x z && !T y z) = true then Yes (.int z) H8 else No H8) := by
                    by_cases hc : (T u z && T v z && !T x z && !T y z) = true
                    · rw [if_pos hc]
                      exact yes _ (if_pos hc) _ _ (Same.refl _) rfl
                    · rw [if_neg hc]
                      exact no' (if_neg hc) _ (Same.refl _)
                  refine ⟨rfl, rdM M8 rfl rfl rfl hun hz ⟨_, rfl, ifB (fun d1 => ?_) (fun d1 => ?_)⟩⟩
                  · refine rdM M8 rfl rfl rfl hvn hz ⟨_, rfl, ifB (fun d2 => ?_) (fun d2 => ?_)⟩
                    · refine rdM M8 rfl rfl rfl hx hz ⟨_, rfl, ifN (fun d3 => ?_) (fun d3 => ?_)⟩
                      · refine rdM M8 rfl rfl rfl hyn hz ⟨_, rfl, ifN (fun d4 => ?_) (fun d4 => ?_)⟩
                        · rw [d1, d2, d3, d4] at fin
                          exact ⟨_, rfl, fin⟩
                        · rw [d1, d2, d3, d4] at fin
                          exact fin
                      · rw [d1, d2, d3] at fin
                        exact fin
                    · rw [d1, d2] at fin
                      exact fin
                  · rw [d1] at fin
                    exact fin
                · intro H8 ys s8 hy8 pr8
                  rw [fm_id, show ((n : Int) - 0).toNat = n by omega] at pr8
                  have eys := pairedPt_eq pr8
                  subst eys
                  have hD8 : H8 D = some (.lst ((lastL n T x y u v).map pI)) := hy8
                  have s18 := s17.trans s8
                  have s78 := s7.trans s8
                  have nxt : (T u v = false → lastL n T x y u v = []) → ∃ v7' v8', [some (V.ref m), some (V.ref pr), v2, some (pI x), some (pI y), v5, some (pI u), some (pI v), some (V.ref D), none] = [some (.ref m), some (.ref pr), v2, some (pI x), some (pI y), v5, some (pI u), v7', v8', none] ∧ Same H6 H8 ∧ ∀ v' ∈ (onlyL n T y x).take (b + 1), T u v' = false → lastL n T x y u v' = [] := fun nn => by
                    refine ⟨_, _, rfl, s78, fun v' hv' => ?_⟩
                    rw [List.take_add_one, hv] at hv'
                    rcases List.mem_append.mp hv' with h | h
                    · exact nov v' h
                    · have e : v' = v := by simpa using h
                      subst e
                      exact nn
                  refine rdM (M.same s18) rfl rfl rfl hun hvn ⟨_, rfl, ifN (fun d1 => ?_) (fun d1 => ?_)⟩
                  · refine ⟨_, rfl, _, .inl ⟨_, SqL.of hD8, rfl⟩, ?_⟩
                    cases el : lastL n T x y u v with
                    | nil => exact nxt fun _ => el
                    | cons e es =>
                      rw [el] at hD8
                      have hem := mem_lastL.mp (show e ∈ lastL n T x y u v by rw [el]; exact List.mem_cons_self ..)
                      refine ⟨_, rfl, _, rfl, _, rfl, _, rfl, _, rfl, _, _, _, _, rfl, rfl, SqL.of hD8, atI_nat (j := 0) (v := pI e) rfl, by show 5 ≤ sizeLine; decide, fun p9 h9 => ?_⟩
                      refine ⟨p9, [x, y, u, v, e], rfl, upd_same, by simp, fun p0 us H0 s0' n0 h0 pr0 => ?_⟩
                      have s9 := sNew s18 (o := .lst [pI x, pI y, pI u, pI v, pI e]) h9
                      exact q1 p0 us _ H0 (s9.trans s0') (gone s9 n0) h0 pr0 (wit_split5 S hx hyn (by omega) c hum hvm d1 hem.1 hem.2.1 hem.2.2.1 hem.2.2.2.1 hem.2.2.2.2)
                  · exact nxt fun t => by rw [d1] at t; cases t
              · rintro σ H7 ⟨v7, v8, rfl, s7, nov⟩
                rw [List.length_map, List.take_length] at nov
                refine ⟨_, _, _, rfl, s5.trans (s6.trans s7), fun u' hu' v hv => ?_⟩
                rw [List.take_add_one, hu] at hu'
                rcases List.mem_append.mp hu' with h | h
                · exact nou u' h v hv
                · have e : u' = u := by simpa using h
                  subst e
                  exact nov v hv
            · rintro σ H5 ⟨v6, v7, v8, rfl, s5, nou⟩
              rw [List.length_map, List.take_length] at nou
              exact ext (s3.trans (s4.trans s5)) fun _ => nou
          · exact ext s3 fun t => by rw [c] at t; cases t
        · rintro σ H3 ⟨v4, v6, v7, v8, rfl, s3, noy⟩
          rw [show ((x : Int)).toNat = x from Int.toNat_natCast x] at noy
          refine ⟨_, _, _, _, _, _, _, rfl, s3, fun x' y hx' hy' => ?_⟩
          by_cases e : x' = x
          · subst e
            exact noy y hy'
          · exact nox x' y (by omega) hy'
      · rintro σ H2 ⟨v2, v3, v4, v5, v6, v7, v8, rfl, s2, nox⟩
        rw [show ((n : Int) - 0).toNat = n by omega] at nox
        refine q2 (none_split S (fun st x y hx hy t u v hu hv huv n1 n2 n3 n4 t1 t2 t3 t4 => ?_) (fun x y hx hy t u hu v hv tuv e he e1 e2 e3 e4 => ?_)) H2 (s1.trans s2)
        · exact no4 st x y hx hy t u (mem_apartL.mpr ⟨hu, n1, n2, t1, t2⟩) v (mem_apartL.mpr ⟨hv, n3, n4, t3, t4⟩) huv
        · have h := nox x y hx hy t u hu v hv tuv
          have : e ∈ lastL n T x y u v := mem_lastL.mpr ⟨he, e1, e2, e3, e4⟩
          rw [h] at this
          cases this
/-! ### by kinds -/
def sp_pairs_of : Sp := fun vs H Q _ => ∃ (m : Addr) (rows : List Addr) (n : Nat) (T : Tm) (kd : Kd), vs = [.ref m, .str (kdS kd)] ∧ Mat H m rows n T ∧ SymT n T ∧ n ≤ 1000 ∧
  (∀ (p : Addr) (us : List V) (L : List (Nat × Nat)) H', Same H H' → H p = none → H' p = some (.lst us) → Paired (Pr H') us L → Wit n kd T L → Q (.ref p) H') ∧ (¬ Has n kd T → ∀ H', Same H H' → Q .non H')
theorem cal_pairs_of (A : At K mg "pairs_of_place" s_pairs_of_place) (B : Bi mg) (c_crossed : Cal P w K mg base 2 "crossed" (sp_place .threshold)) (c_unsplit : Cal P w K mg base 2 "unsplit" (sp_place .split)) (c_along : Cal P w K mg base 2 "along" sp_along) : Cal P w K mg base 3 "pairs_of_place" sp_pairs_of := by
  have nd := sc_pairs_of_place.nd
  refine A.cal sc_pairs_of_place (fun _ _ _ _ _ _ us hl => match us, hl with | [_, _], _ => rfl) ?_ fun f cdv A' outer s H vs Q E hr h => ⟨_, (pss_cons (ps_if (pt_cmpR op_eq (pv 1) pe_str (nomark _)) (pss_one (ps_ret (pe_cal c_crossed hr (by first | decide | omega) (by rfl) passE (pa_cons (pv 0) pa_nil)))) pss_nil)
  (pss_cons (ps_if (pt_cmpR op_eq (pv 1) pe_str (nomark _)) (pss_one (ps_ret (pe_cal c_unsplit hr (by first | decide | omega) (by rfl) passE (pa_cons (pv 0) pa_nil)))) pss_nil)
  (pss_one (ps_ret (pe_cal c_along hr (by first | decide | omega) (by rfl) passE (pa_cons (pv 0) (pa_cons (pv 1) pa_nil))))))), ?_⟩
  · rintro vs H Q E ⟨m, rows, n, T, kd, rfl, _⟩
    rfl
  · obtain ⟨m, rows, n, T, kd, rfl, M, S, hn, q1, q2⟩ := h
    refine ⟨_, rfl, rfl, _, rfl, ifD (fun c => ?_) (fun c => ?_)⟩
    · have e : kd = .threshold := by cases kd <;> first | rfl | exact absurd (V.str.inj c) (by decide +kernel)
      subst e
      exact ⟨_, rfl, m, rows, n, T, rfl, M, S, hn, q1, q2⟩
    · refine ⟨_, rfl, rfl, _, rfl, ifD (fun c2 => ?_) (fun c2 => ?_)⟩
      · have e : kd = .split := by cases kd <;> first | rfl | exact absurd (V.str.inj c2) (by decide +kernel)
        subst e
        exact ⟨_, rfl, m, rows, n, T, rfl, M, S, hn, q1, q2⟩
      · refine ⟨_, rfl, _, rfl, m, rows, n, T, kd, rfl, ?_, M, S, hn, q1, q2⟩
        cases kd
        · exact absurd rfl c
        · exact .inl rfl
        · exact .inr rfl
        · exact absurd rfl c2
end
end Ns

/-! Own layer: the search for few pairs, walked. -/
namespace Ns
open PySem PySem.Spec PyProof.Rows L2
local macro_rules | `(tactic| walk_at "look") => `(tactic| first | assumption | exact upd_same | (refine (upd_ne (by first | assumption | exact Ne.symm (by assumption))).trans ?_; walk_at "look"))
local macro_rules | `(tactic| walk_at "cond") => `(tactic| first | assumption | omega | (dsimp only; omega) | exact ⟨by omega, by omega⟩ | decide | exact ⟨by decide, by decide, by decide⟩ | exact .inr ⟨by decide, by decide⟩ | exact .inl ⟨by decide, by decide⟩ | exact .inr ⟨by omega, by omega⟩ | exact .inl ⟨by omega, by omega⟩)
local macro_rules | `(tactic| walk_at "rd1") => `(tactic| first
  | refine ⟨_, rfl, ?_⟩
  | refine ⟨_, _, rfl, rfl, ?_⟩
  | refine ⟨rfl, ?_⟩
  | refine ⟨_, _, rfl, rfl, (by walk_at "cond"), ?_⟩
  | refine ⟨_, _, _, _, rfl, rfl, SqL.of (by walk_at "look"), rfl, ?_⟩
  | refine ⟨_, _, _, _, rfl, rfl, SqT.of (by walk_at "look"), rfl, ?_⟩
  | refine ⟨_, _, _, _, rfl, rfl, (by walk_at "look"), rfl, ?_⟩
  | refine .inl ⟨_, rfl, ?_⟩
  | refine ⟨.inl ⟨rfl, _, SqL.of (by walk_at "look")⟩, ?_⟩
  | refine ⟨_, _, rfl, ⟨by omega, by omega, by omega, by omega⟩, ?_⟩
  | refine ⟨_, rfl, (by omega), (by omega), ?_⟩
  | refine And.intro (by walk_at "cond") ?_)
local macro_rules | `(tactic| walk_at "rd") => `(tactic| repeat (walk_at "rd1"))

abbrev s_turned_so : Stmt := top 15
abbrev N_turned_so : List Str := ["tied", "kind", "many", "done", "pairs", "x", "y", "pair", "found"]
theorem sc_turned_so : FnScope N_turned_so ["tied", "kind", "many", "done"] (defScope s_turned_so) := ⟨rfl, rfl, rfl, by decide +kernel, rfl, by decide +kernel, by decide +kernel⟩
abbrev s_nearest : Stmt := top 14
abbrev N_nearest : List Str := ["net", "kind", "most", "tied", "many", "found"]
theorem sc_nearest : FnScope N_nearest ["net", "kind", "most"] (defScope s_nearest) := ⟨rfl, rfl, rfl, by decide +kernel, rfl, by decide +kernel, by decide +kernel⟩
section
variable {P : Program} {w : World} {K : PySem.W.Frag} {mg : Str → Option Value} {base : Heap}
def sp_so (fuel : Nat) : Sp := fun vs H Q _ => ∃ (mt : Addr) (rows : List Addr) (n : Nat) (T : Tm) (kd : Kd) (dv : V) (dn : List (Nat × Nat)), vs = [.ref mt, .str (kdS kd), .int (fuel : Int), dv] ∧ Mat H mt rows n T ∧ SymT n T ∧ n ≤ 100 ∧ Tup Pr H dv dn ∧ dn.length + fuel ≤ 10 ∧
  (∀ v R H', Out rows H H' → Mat H' mt rows n T → Fnd n kd T fuel dn R → Tup Pr H' v R → Q v H') ∧ (¬ Free n kd T fuel dn → ∀ H', Out rows H H' → Mat H' mt rows n T → Q .non H')
theorem nrm_int (x y : Nat) : (if (y : Int) < (x : Int) then (y : Int) else (x : Int)) = ((nrm (x, y)).1 : Int) ∧ (if (y : Int) > (x : Int) then (y : Int) else (x : Int)) = ((nrm (x, y)).2 : Int) := by
  unfold nrm
  dsimp only
  constructor
  · split <;> omega
  · split <;> omega
def spUpto (N : Nat) : Sp := fun vs H Q E => ∃ fuel, fuel ≤ N ∧ sp_so fuel vs H Q E
theorem cal_so_step {N : Nat} {spR : Sp} (A : At K mg "turned_so" s_turned_so) (B : Bi mg) (c_turn : Cal P w K mg base 1 "turn" sp_turn) (c_pairs_of_place : Cal P w K mg base 3 "pairs_of_place" sp_pairs_of)
    (c_rec : Cal P w K mg base (3 + N) "turned_so" spR) (hR : ∀ g vs H Q E, g + 1 ≤ N → sp_so g vs H Q E → spR vs H Q E) : Cal P w K mg base (3 + N + 1) "turned_so" (spUpto N) := by
  have nd := sc_turned_so.nd
  refine A.cal sc_turned_so (fun _ _ _ _ _ _ us hl => match us, hl with | [_, _, _, _], _ => rfl) ?_ fun f cdv A' outer s H vs Q E hr h => ⟨_, (pss_cons (ps_set (i := 4) nd rfl (.inl rfl) (pe_cal c_pairs_of_place hr (by first | decide | omega) (by rfl) passE (pa_cons (pv 0) (pa_cons (pv 1) pa_nil))))
  (pss_cons (ps_if (pt_cmpR op_isN (pv 4) pe_non (nomark _)) (pss_one (ps_ret (pv 3))) pss_nil)
  (pss_cons (ps_if (pt_cmpR op_eq (pv 2) pe_int (nomark _)) (pss_one (ps_ret pe_non)) pss_nil)
  (pss_cons (ps_for passOwn rfl (pi_listK (K := K) rfl (pv 4)) (pg_tupK (K := K) (n := 2) rfl rfl (pgs_cons (pg_name (i := 5) nd rfl (.inl rfl)) (pgs_cons (pg_name (i := 6) nd rfl (.inl rfl)) pgs_nil))) (pss_cons (ps_set (i := 7) nd rfl (.inl rfl) (pe_tup (pa_cons (pe_callB (call_min2 rfl) (by rfl) B.min (by decide +kernel) (pa_cons (pv 5) (pa_cons (pv 6) pa_nil))) (pa_cons (pe_callB (call_max2 rfl) (by rfl) B.max (by decide +kernel) (pa_cons (pv 5) (pa_cons (pv 6) pa_nil))) pa_nil))))
  (pss_cons (ps_if (pt_cmpR (op_inTDK (K := K) rfl (hu66 hr)) (pv 7) (pv 3) rfl) (pss_one ps_continue) pss_nil)
  (pss_cons (ps_expr (pe_cal c_turn hr (by first | decide | omega) (by rfl) passE (pa_cons (pv 0) (pa_cons (pv 5) (pa_cons (pv 6) pa_nil)))))
  (pss_cons (ps_set (i := 8) nd rfl (.inl rfl) (pe_cal c_rec hr (Nat.le_refl _) (by rfl) passE (pa_cons (pv 0) (pa_cons (pv 1) (pa_cons (pe_op op_sub (pv 2) pe_int) (pa_cons (pe_op (op_catAK (K := K) rfl) (pv 3) (pe_tup (pa_cons (pv 7) pa_nil))) pa_nil))))))
  (pss_cons (ps_expr (pe_cal c_turn hr (by first | decide | omega) (by rfl) passE (pa_cons (pv 0) (pa_cons (pv 5) (pa_cons (pv 6) pa_nil)))))
  (pss_one (ps_if (pt_cmpR op_notN (pv 8) pe_non (nomark _)) (pss_one (ps_ret (pv 8))) pss_nil))))))))
  (pss_one (ps_ret pe_non)))))), ?_⟩
  · rintro vs H Q E ⟨fuel, hfu, mt, rows, n, T, kd, dv, dn, rfl, _⟩
    rfl
  · obtain ⟨fuel, hfu, mt, rows, n, T, kd, dv, dn, rfl, M, S, hn, hdn, hlen, q1, q2⟩ := h
    refine ⟨_, rfl, _, rfl, mt, rows, n, T, kd, rfl, M, S, by omega, fun p us L H1 s1 np hp pr W => ?_, fun no H1 s1 => ?_⟩
    · refine ⟨_, rfl, rfl, _, rfl, iteF ?_⟩
      cases fuel with
      | zero =>
        refine ⟨_, rfl, rfl, _, rfl, iteT (q2 (fun h => absurd (free_step W S h).1 (Nat.lt_irrefl 0)) H1 (Out.of s1) (M.same s1))⟩
      | succ fu =>
      refine ⟨_, rfl, rfl, _, rfl, ifD (fun c => absurd (V.int.inj c) (by omega)) (fun _ => ?_)⟩
      have M1 := M.same s1
      have hpr : p ∉ rows := fun hm => by
        obtain ⟨i, hi, e⟩ := List.mem_iff_getElem.mp hm
        have h1 := M.at_ i p (by rw [← e]; simp [hi])
        rw [np] at h1
        cases h1
      refine ⟨_, rfl, p, rfl, ⟨_, SqL.of hp⟩, for_list (K := K) (a := p) (xs := us) (fun i σ H2 => ∃ v5 v6 v7 v8, σ = [some (.ref mt), some (.str (kdS kd)), some (.int ((fu + 1 : Nat) : Int)), some dv, some (.ref p), v5, v6, v7, v8] ∧ Out rows H1 H2 ∧ Mat H2 mt rows n T ∧
        ∀ q ∈ L.take i, nrm q ∉ dn → ¬ Free n kd (flip1 T q.1 q.2) fu (dn ++ [nrm q])) ⟨none, none, none, none, rfl, Out.refl _ _, M1, fun q h => by simp at h⟩ (fun i σ H2 _ ⟨_, _, _, _, _, o, _⟩ => SqL.of (o _ _ hp hpr)) ?_ ?_⟩
      · rintro i x σ H2 hx ⟨v5, v6, v7, v8, rfl, o2, M2, no⟩
        obtain ⟨qq, hq, t, rfl, ht⟩ := pAtL pr hx
        obtain ⟨qx, qy⟩ := qq
        have hqm := List.mem_of_getElem? hq
        have hin := W.1 _ hqm
        have kt2 := o2.kt M1
        have ht2 := kt2 _ _ ht
        have nxt : ∀ {H9 : Hp} {v5 v6 v7 v8 : Option V}, Out rows H1 H9 → Mat H9 mt rows n T → (nrm (qx, qy) ∉ dn → ¬ Free n kd (flip1 T qx qy) fu (dn ++ [nrm (qx, qy)])) → ∃ w5 w6 w7 w8, [some (V.ref mt), some (V.str (kdS kd)), some (V.int ((fu + 1 : Nat) : Int)), some dv, some (V.ref p), v5, v6, v7, v8] = [some (.ref mt), some (.str (kdS kd)), some (.int ((fu + 1 : Nat) : Int)), some dv, some (.ref p), w5, w6, w7, w8] ∧ Out rows H1 H9 ∧ Mat H9 mt rows n T ∧
            ∀ q ∈ L.take (i + 1), nrm q ∉ dn → ¬ Free n kd (flip1 T q.1 q.2) fu (dn ++ [nrm q]) := fun o9 M9 nn => by
          refine ⟨_, _, _, _, rfl, o9, M9, fun q hq' => ?_⟩
          rw [List.take_add_one, hq] at hq'
          rcases List.mem_append.mp hq' with h | h
          · exact no q h
          · have e : q = (qx, qy) := by simpa using h
            subst e
            exact nn
        obtain ⟨em1, em2⟩ := nrm_int qx qy
        refine ⟨t, _, rfl, SqT.of ht2, rfl, _, _, rfl, _, _, rfl, rfl, ?_⟩
        refine ⟨_, rfl, _, rfl, _, _, rfl, _, rfl, _, rfl, _, _, rfl, by show 2 ≤ sizeLine; decide, fun t3 h3 => ?_⟩
        rw [em1, em2]
        have x3 := same_laid (o := .tup [.int ((nrm (qx, qy)).1 : Int), .int ((nrm (qx, qy)).2 : Int)]) h3
        have hp3 : Pr (upd H2 t3 (.tup [.int ((nrm (qx, qy)).1 : Int), .int ((nrm (qx, qy)).2 : Int)])) (.ref t3) (nrm (qx, qy)) := ⟨t3, rfl, upd_same⟩
        have kt3 : KeepT H (upd H2 t3 (.tup [.int ((nrm (qx, qy)).1 : Int), .int ((nrm (qx, qy)).2 : Int)])) := (sKt s1).trans (kt2.trans (sKt x3))
        have hdn3 := persTup persPr _ _ _ _ kt3 hdn
        have M3 := M2.same x3
        have o3 := o2.trans (Out.of x3)
        obtain ⟨dt, dvs, edv, hdt, hdpr⟩ := id hdn3
        refine ⟨_, rfl, _, rfl, pairD (nrm (qx, qy)), dn.map pairD, dp_pair hp3, ?_, sh_pair _, sh_pairsT _, _, rfl, ?_⟩
        · rw [edv]
          exact .tup (SqT.of hdt) (dps_pairs hdpr)
        rw [if_neg Bool.false_ne_true, any_pairD]
        refine ifD (fun c => nxt o3 M3 fun h => absurd c h) (fun hqd => ?_)
        have hxy : qx ≠ qy := hin.2.2
        refine ⟨_, rfl, _, rfl, _, rfl, mt, rows, n, qx, qy, T, rfl, M3, hin.1, hin.2.1, hxy, fun H4 M4 o4 n4 => ?_⟩
        have kt4 := kt3.trans (o4.kt M3)
        have hdn4 := persTup persPr _ _ _ _ kt4 hdn
        have hp4 := persPr _ _ _ _ (o4.kt M3) hp3
        refine ⟨_, rfl, _, rfl, _, rfl, _, _, rfl, rfl, _, rfl, _, rfl, by show 1 ≤ sizeLine; decide, fun t5 h5 => ?_⟩
        have x5 := same_laid (o := .tup [.ref t3]) h5
        have one5 : Tup Pr (upd H4 t5 (.tup [.ref t3])) (.ref t5) [nrm (qx, qy)] := ⟨t5, _, rfl, upd_same, .cons (persPr _ _ _ _ (sKt x5) hp4) .nil⟩
        refine catP persPr (persTup persPr _ _ _ _ (sKt x5) hdn4) one5 (by simp; omega) (by simp) fun v6 H6 s6 hv6 => ?_
        have x6 := x5.trans s6
        have M6 := M4.same x6
        have eint : ((fu + 1 : Nat) : Int) - 1 = (fu : Int) := by omega
        refine hR fu _ _ _ _ (by omega) ⟨mt, rows, n, flip1 T qx qy, kd, v6, dn ++ [nrm (qx, qy)], by show [V.ref mt, V.str (kdS kd), V.int (((fu + 1 : Nat) : Int) - 1), v6] = _; rw [eint], M6, S.flip1 hxy, hn, hv6, by simp; omega, fun v R H7 o7 M7 fd hR7 => ?_, fun nf H7 o7 M7 => ?_⟩
        · refine ⟨_, rfl, _, rfl, _, rfl, mt, rows, n, qx, qy, _, rfl, M7, hin.1, hin.2.1, hxy, fun H8 M8 o8 n8 => ?_⟩
          have M9 := M8.congr fun i j _ _ => flip1_twice T qx qy i j
          have oo : Out rows H H8 := (((Out.of s1).trans o3).trans (o4.trans (Out.of x6))).trans (o7.trans o8)
          obtain ⟨rt, rvs, rfl, hrt, hrp⟩ := id hR7
          refine ⟨_, rfl, rfl, _, rfl, iteT ⟨_, rfl, q1 _ R H8 oo M9 (fnd_step hin hqd fd) (persTup persPr _ _ _ _ (o8.kt M7) hR7)⟩⟩
        · refine ⟨_, rfl, _, rfl, _, rfl, mt, rows, n, qx, qy, _, rfl, M7, hin.1, hin.2.1, hxy, fun H8 M8 o8 n8 => ?_⟩
          have M9 := M8.congr fun i j _ _ => flip1_twice T qx qy i j
          refine ⟨_, rfl, rfl, _, rfl, iteF (nxt ((o3.trans (o4.trans (Out.of x6))).trans (o7.trans o8)) M9 fun _ => nf)⟩
      · rintro σ H2 ⟨v5, v6, v7, v8, rfl, o2, M2, no⟩
        rw [pr.length, List.take_length] at no
        refine q2 (fun h => ?_) H2 ((Out.of s1).trans o2) M2
        obtain ⟨_, q, hq, hqn, hf⟩ := free_step W S h
        exact no q hq hqn hf
    · refine ⟨_, rfl, rfl, _, rfl, iteT ?_⟩
      refine ⟨_, rfl, q1 dv dn H1 (Out.of s1) (M.same s1) (fnd_none no) (persTup persPr _ _ _ _ (sKt s1) hdn)⟩
theorem cal_so (A : At K mg "turned_so" s_turned_so) (B : Bi mg) (c_turn : Cal P w K mg base 1 "turn" sp_turn) (c_pairs_of_place : Cal P w K mg base 3 "pairs_of_place" sp_pairs_of) : ∀ N : Nat, Cal P w K mg base (3 + N + 1) "turned_so" (spUpto N)
  | 0 => by
    have c0 : Cal P w K mg base (2 + 1) "turned_so" (fun _ _ _ _ => False) := A.cal sc_turned_so (fun _ _ _ _ _ _ us hl => match us, hl with | [_, _, _, _], _ => rfl) (fun _ _ _ _ h => h.elim) fun _ _ _ _ _ _ _ _ _ _ h => h.elim
    exact cal_so_step A B c_turn c_pairs_of_place c0 fun g _ _ _ _ h => absurd h (Nat.not_succ_le_zero g)
  | N + 1 => cal_so_step A B c_turn c_pairs_of_place (cal_so A B c_turn c_pairs_of_place N) fun g _ _ _ _ h x => ⟨g, Nat.le_of_succ_le_succ h, x⟩
def sp_nearest : Sp := fun vs H Q _ => ∃ (v : V) (n : Nat) (ties : List (Nat × Nat)) (kd : Kd) (most : Nat), vs = [v, .str (kdS kd), .int (most : Int)] ∧ Net H v n ties ∧ n ≤ 40 ∧ Good n ties ∧ most ≤ 4 ∧
  (∀ v' S H' m, Same H H' → m ≤ most → NormS n S → S.length ≤ m → ¬ Has n kd (flipL (tieT ties) S) → (∀ m', m' < m → ¬ Free n kd (tieT ties) m' []) → S.Pairwise ltP → Tup Pr H' v' S → Q v' H') ∧
  ((∀ m, m ≤ most → ¬ Free n kd (tieT ties) m []) → ∀ H', Same H H' → Q .non H')
theorem strict_of {S ys : List (Nat × Nat)} (nd : ys.Nodup) (h : ys.Pairwise fun a b => ¬ ltP b a) : ys.Pairwise ltP := by
  have h2 := h.and nd
  refine h2.imp fun {a b} hab => ?_
  obtain ⟨h1, h3⟩ := hab
  unfold ltP at h1 ⊢
  have h4 : ¬ (a.1 = b.1 ∧ a.2 = b.2) := fun e => h3 (Prod.ext e.1 e.2)
  omega
theorem flipL_perm {T : Tm} {S S' : List (Nat × Nat)} (p : S'.Perm S) (i j : Nat) : flipL T S' i j = flipL T S i j := by
  unfold flipL
  congr 1
  exact decide_eq_decide.mpr p.mem_iff
def kinds4 : List Str := [Str.ofString "split", Str.ofString "threshold", Str.ofString "nested", Str.ofString "cograph"]
theorem cal_nearest {CB CK CM a_TURNED : Addr} (A : At K mg "nearest" s_nearest) (B : Bi mg) (x_BadKind : ExcC K mg "BadKind" CK) (x_TooMuch : ExcC K mg "TooMuch" CM) (c_TURNED : mg "TURNED" = some (.ref a_TURNED)) (hT : ∀ H, SqT K H a_TURNED (kinds4.map V.str))
    (c_check_net : Cal P w K mg base 4 "check_net" (sp_check_net K CB)) (c_is_number : Cal P w K mg base 1 "is_number" (sp_is_number K)) (c_matrix : Cal P w K mg base 1 "matrix" sp_matrix) (c_turned_so : Cal P w K mg base 8 "turned_so" (spUpto 4)) : Cal P w K mg base 9 "nearest" sp_nearest := by
  have nd := sc_nearest.nd
  refine A.cal sc_nearest (fun _ _ _ _ _ _ us hl => match us, hl with | [_, _, _], _ => rfl) ?_ fun f cdv A' outer s H vs Q E hr h => ⟨_, (pss_cons (ps_expr (pe_cal c_check_net hr (by first | decide | omega) (by rfl) passE (pa_cons (pv 0) pa_nil)))
  (pss_cons (ps_if (PW.pt (pw_or (pt_not (pt_val (pe_callB (call_isiK' (K := K) rfl) (by rfl) B.isinstance (by decide +kernel) (pa_cons (pv 1) (pa_cons (pe_bltn (v := .ty "str") (u := .type "str") (by rfl) B.str_ (by decide +kernel) rfl) pa_nil))))) (pw_or1 (pt_cmpR (op_notIn_seqK (K := K) rfl) (pv 1) (pe_glob (v := .ref a_TURNED) rfl c_TURNED rfl) rfl)))) (pss_one (ps_raise rfl (takes_of rfl rfl rfl rfl) (pmk_own0 PySem.F.excBase_ValueError x_BadKind.ex x_BadKind.g x_BadKind.kp (raises_own x_BadKind.sub x_BadKind.ty) (by rfl)))) pss_nil)
  (pss_cons (ps_if (PW.pt (pw_or (pt_not (pt_val (pe_cal c_is_number hr (by first | decide | omega) (by rfl) passE (pa_cons (pv 2) pa_nil)))) (pw_or1 (pt_not (pt_chain op_le op_le pe_int (pv 2) pe_int))))) (pss_one (ps_raise rfl (takes_of rfl rfl rfl rfl) (pmk_own0 PySem.F.excBase_ValueError x_TooMuch.ex x_TooMuch.g x_TooMuch.kp (raises_own x_TooMuch.sub x_TooMuch.ty) (by rfl)))) pss_nil)
  (pss_cons (ps_set (i := 3) nd rfl (.inl rfl) (pe_cal c_matrix hr (by first | decide | omega) (by rfl) passE (pa_cons (pv 0) pa_nil)))
  (pss_cons (ps_for passOwn rfl (pi_range1 (by rfl) B.range (pa_cons (pe_op op_add (pv 2) pe_int) pa_nil)) (pg_name (i := 4) nd rfl (.inl rfl)) (pss_cons (ps_set (i := 5) nd rfl (.inl rfl) (pe_cal c_turned_so hr (by first | decide | omega) (by rfl) passE (pa_cons (pv 3) (pa_cons (pv 1) (pa_cons (pv 4) (pa_cons (pe_tup pa_nil) pa_nil))))))
  (pss_one (ps_if (pt_cmpR op_notN (pv 5) pe_non (nomark _)) (pss_one (ps_ret (pe_callTy (call_tuple_ofK (K := K) rfl) (by rfl) B.tuple (by decide +kernel) (pa_cons (pe_callB (cr_sortedSP (K := K) rfl) (by rfl) B.sorted (by decide +kernel) (pa_cons (pv 5) pa_nil)) pa_nil)))) pss_nil))))
  (pss_one (ps_ret pe_non))))))), ?_⟩
  · rintro vs H Q E ⟨v, n, ties, kd, most, rfl, _⟩
    rfl
  · obtain ⟨v, n, ties, kd, most, rfl, hN, hn, hg, hm, q1, q2⟩ := h
    refine ⟨_, rfl, v, netD n ties, rfl, dp_net hN, fun _ H0 s0 => ?_, fun e => by rw [isNetD_net.mpr ⟨hn, hg⟩] at e; cases e⟩
    have hd : Dp K H0 (.str (kdS kd)) (.str (kdS kd)) := .str _
    refine ⟨_, rfl, _, .ty "str", .type (tyName _), .type "str", _, rfl, .ty _, tyX_of hd, kit_ty (kit_isi _ "str" (by simp)), ?_⟩
    rw [isi_str]
    refine ⟨_, rfl, ?_⟩
    refine ifB (fun c => by cases c) (fun _ => ?_)
    refine ⟨_, rfl, _, _, rfl, .inr (hT H0), rfl, rfl, _, rfl, ?_⟩
    have ein : inV (.str (kdS kd)) (kinds4.map V.str) = true := by cases kd <;> decide +kernel
    refine ifB (fun c => ?_) (fun _ => ?_)
    · have c : (!inV (.str (kdS kd)) (kinds4.map V.str)) = true := c
      rw [ein] at c
      cases c
    refine ⟨_, rfl, _, .int (most : Int), rfl, .int _, _, rfl, ?_⟩
    refine ifN (fun c => by cases c) (fun _ => ?_)
    refine ⟨_, rfl, _, _, rfl, rfl, _, rfl, ifD (fun _ => ?_) (fun c => absurd (by omega) c)⟩
    refine ⟨_, _, rfl, rfl, _, rfl, ifN (fun c => absurd (of_decide_eq_false c) (by omega)) (fun _ => ?_)⟩
    refine ⟨_, rfl, v, n, ties, rfl, hN.keep (sKt s0), by omega, fun p hp => ⟨by have := hg.1 p hp; omega, (hg.1 p hp).2⟩, fun mt rows H1 s1 nm nr M => ?_⟩
    have S : SymT n (tieT ties) := ⟨fun i j _ _ => tieT_sym ties i j, fun i _ => tieT_irr hg i⟩
    have s01 := s0.trans s1
    have nr0 : ∀ a ∈ rows, H a = none := fun a ha => gone s0 (nr a ha)
    refine ⟨_, rfl, _, _, rfl, rfl, _, rfl, by omega, by omega, ?_⟩
    refine for_range (lo := 0) (n := ((most : Int) + 1).toNat) (fun i σ H2 => ∃ v4 v5, σ = [some v, some (.str (kdS kd)), some (.int (most : Int)), some (.ref mt), v4, v5] ∧ Same H H2 ∧ Mat H2 mt rows n (tieT ties) ∧ ∀ m, m < i → ¬ Free n kd (tieT ties) m [])
      ⟨none, none, rfl, s01, M, fun m h => absurd h (Nat.not_lt_zero m)⟩ ?_ ?_
    · rintro i σ H2 hi ⟨v4, v5, rfl, s2, M2, no⟩
      rw [Int.zero_add]
      refine ⟨_, rfl, _, rfl, _, rfl, Nat.zero_le _, fun t3 h3 => ?_⟩
      have s3 := same_laid (o := .tup []) h3
      have e3 : Tup Pr (upd H2 t3 (.tup [])) (.ref t3) [] := ⟨t3, [], rfl, upd_same, .nil⟩
      refine ⟨i, by omega, mt, rows, n, tieT ties, kd, .ref t3, [], rfl, M2.same s3, S, by omega, e3, by simp; omega, fun v6 R H4 o4 M4 fd hR => ?_, fun nf H4 o4 M4 => ?_⟩
      · obtain ⟨R0, eR, nR, lR, _, hR0⟩ := fd
        rw [List.nil_append] at eR
        subst eR
        obtain ⟨rt, rvs, rfl, hrt, hrp⟩ := hR
        have s4 := Out.same (s2.trans s3) nr0 o4
        refine ⟨_, rfl, rfl, _, rfl, iteT ?_⟩
        refine ⟨_, rfl, rt, rvs, R, rfl, .inr (SqT.of hrt), hrp, fun us ys p5 pm so pr5 h5 => ?_⟩
        have s5 := sNew s4 (o := .lst us) h5
        refine ⟨p5, us, rfl, .inl ⟨SqL.of upd_same, fun t6 h6 => ?_⟩⟩
        have s6 := sNew s5 (o := .tup us) h6
        have ndy := pm.nodup_iff.mpr nR.1
        refine q1 (.ref t6) ys _ i s6 (by omega) ⟨ndy, fun q hq => nR.2 q (pm.mem_iff.mp hq)⟩ (by rw [pm.length_eq]; exact lR) (fun h => hR0 (h.congr fun a b _ _ => flipL_perm pm a b)) no (strict_of (S := ys) ndy so) ⟨t6, us, rfl, upd_same, ?_⟩
        exact pMono persPr (sKt (sNew (same_laid h5) h6)) pr5
      · have s4 := Out.same (s2.trans s3) nr0 o4
        refine ⟨_, rfl, rfl, _, rfl, iteF ?_⟩
        refine ⟨_, _, rfl, s4, M4, fun m hm' => ?_⟩
        by_cases e : m = i
        · subst e
          exact nf
        · exact no m (by omega)
    · rintro σ H2 ⟨v4, v5, rfl, s2, M2, no⟩
      exact q2 (fun m hm' => no m (by omega)) H2 s2
end
end Ns

/-! Own layer: the law's own search for places, walked. -/
namespace Ns
open PySem PySem.Spec PyProof.Rows L2
local macro_rules | `(tactic| walk_at "look") => `(tactic| first | assumption | exact upd_same | (refine (upd_ne (by first | assumption | exact Ne.symm (by assumption))).trans ?_; walk_at "look"))
local macro_rules | `(tactic| walk_at "cond") => `(tactic| first | assumption | omega | (dsimp only; omega) | exact ⟨by omega, by omega⟩ | decide | exact ⟨by decide, by decide, by decide⟩ | exact .inr ⟨by decide, by decide⟩ | exact .inl ⟨by decide, by decide⟩ | exact .inr ⟨by omega, by omega⟩ | exact .inl ⟨by omega, by omega⟩)
local macro_rules | `(tactic| walk_at "rd1") => `(tactic| first
  | refine ⟨_, rfl, ?_⟩
  | refine ⟨_, _, rfl, rfl, ?_⟩
  | refine ⟨rfl, ?_⟩
  | refine ⟨_, _, rfl, rfl, (by walk_at "cond"), ?_⟩
  | refine ⟨_, _, _, _, rfl, rfl, SqL.of (by walk_at "look"), rfl, ?_⟩
  | refine ⟨_, _, _, _, rfl, rfl, SqT.of (by walk_at "look"), rfl, ?_⟩
  | refine ⟨_, _, _, _, rfl, rfl, (by walk_at "look"), rfl, ?_⟩
  | refine .inl ⟨_, rfl, ?_⟩
  | refine ⟨.inl ⟨rfl, _, SqL.of (by walk_at "look")⟩, ?_⟩
  | refine ⟨_, _, rfl, ⟨by omega, by omega, by omega, by omega⟩, ?_⟩
  | refine ⟨_, rfl, (by omega), (by omega), ?_⟩
  | refine And.intro (by walk_at "cond") ?_)
local macro_rules | `(tactic| walk_at "rd") => `(tactic| repeat (walk_at "rd1"))

abbrev s_law_fours : Stmt := top 31
abbrev N_law_fours : List Str := ["n", "out", "step", "longer", "row", "x"]
theorem sc_law_fours : FnScope N_law_fours ["n"] (defScope s_law_fours) := ⟨rfl, rfl, rfl, by decide +kernel, rfl, by decide +kernel, by decide +kernel⟩
abbrev s_law_fifth : Stmt := top 33
abbrev N_law_fifth : List Str := ["tied", "a", "b", "c", "d", "e"]
theorem sc_law_fifth : FnScope N_law_fifth ["tied", "a", "b", "c", "d"] (defScope s_law_fifth) := ⟨rfl, rfl, rfl, by decide +kernel, rfl, by decide +kernel, by decide +kernel⟩
abbrev s_law_has_place : Stmt := top 32
abbrev N_law_has_place : List Str := ["tied", "kind", "a", "b", "c", "d"]
theorem sc_law_has_place : FnScope N_law_has_place ["tied", "kind"] (defScope s_law_has_place) := ⟨rfl, rfl, rfl, by decide +kernel, rfl, by decide +kernel, by decide +kernel⟩
abbrev s_law_flip : Stmt := top 34
abbrev N_law_flip : List Str := ["tied", "pairs", "out", "x", "y", "row"]
theorem sc_law_flip : FnScope N_law_flip ["tied", "pairs"] (defScope s_law_flip) := ⟨rfl, rfl, rfl, by decide +kernel, rfl, by decide +kernel, by decide +kernel⟩
/-! ### rows of unlike points -/
def longer (n : Nat) (L : List (List Nat)) : List (List Nat) := L.flatMap fun r => ((List.range n).filter fun x => !decide (x ∈ r)).map fun x => r ++ [x]
def foursL (n : Nat) : Nat → List (List Nat)
  | 0 => [[]]
  | k + 1 => longer n (foursL n k)
theorem mem_longer {n : Nat} {L : List (List Nat)} {s : List Nat} : s ∈ longer n L ↔ ∃ r x, r ∈ L ∧ x < n ∧ x ∉ r ∧ s = r ++ [x] := by
  unfold longer
  rw [List.mem_flatMap]
  constructor
  · rintro ⟨r, hr, h⟩
    obtain ⟨x, hx, rfl⟩ := List.mem_map.mp h
    have h2 := List.mem_filter.mp hx
    exact ⟨r, x, hr, List.mem_range.mp h2.1, by simpa using h2.2, rfl⟩
  · rintro ⟨r, x, hr, hx, hn, rfl⟩
    exact ⟨r, hr, List.mem_map.mpr ⟨x, List.mem_filter.mpr ⟨List.mem_range.mpr hx, by simpa using hn⟩, rfl⟩⟩
theorem mem_fours {n : Nat} {s : List Nat} : s ∈ foursL n 4 ↔ ∃ a b c d, s = [a, b, c, d] ∧ Four n a b c d := by
  constructor
  · intro h
    obtain ⟨r3, d, h3, hd, nd, rfl⟩ := mem_longer.mp h
    obtain ⟨r2, c, h2, hc, nc, rfl⟩ := mem_longer.mp h3
    obtain ⟨r1, b, h1, hb, nb, rfl⟩ := mem_longer.mp h2
    obtain ⟨r0, a, h0, ha, na, rfl⟩ := mem_longer.mp h1
    have e0 : r0 = [] := by simpa [foursL] using h0
    subst e0
    refine ⟨a, b, c, d, rfl, ⟨ha, hb, hc, hd⟩, ?_⟩
    simp only [List.nil_append, List.cons_append, List.mem_cons, List.not_mem_nil, or_false, not_or] at nb nc nd
    exact ⟨fun e => nb e.symm, fun e => nc.1 e.symm, fun e => nd.1 e.symm, fun e => nc.2 e.symm, fun e => nd.2.1 e.symm, fun e => nd.2.2 e.symm⟩
  · rintro ⟨a, b, c, d, rfl, ⟨ha, hb, hc, hd⟩, ab, ac, ad, bc, bd, cd⟩
    refine mem_longer.mpr ⟨[a, b, c], d, mem_longer.mpr ⟨[a, b], c, mem_longer.mpr ⟨[a], b, mem_longer.mpr ⟨[], a, by simp [foursL], ha, by simp, rfl⟩, hb, ?_, rfl⟩, hc, ?_, rfl⟩, hd, ?_, rfl⟩
    · simp only [List.mem_cons, List.not_mem_nil, or_false]
      exact fun e => ab e.symm
    · simp only [List.mem_cons, List.not_mem_nil, or_false, not_or]
      exact ⟨fun e => ac e.symm, fun e => bc e.symm⟩
    · simp only [List.mem_cons, List.not_mem_nil, or_false, not_or]
      exact ⟨fun e => ad e.symm, fun e => bd e.symm, fun e => cd e.symm⟩
theorem longer_len {n : Nat} : ∀ L : List (List Nat), (longer n L).length ≤ L.length * n
  | [] => by simp [longer]
  | r :: L => by
    have h := longer_len (n := n) L
    unfold longer at *
    rw [List.flatMap_cons, List.length_append, List.length_map, List.length_cons, Nat.succ_mul]
    have := List.length_filter_le (fun x => !decide (x ∈ r)) (List.range n)
    rw [List.length_range] at this
    omega
theorem inV_nats (x : Nat) : ∀ r : List Nat, inV (pI x) (r.map pI) = decide (x ∈ r)
  | [] => by simp [inV]
  | y :: r => by
    have h := inV_nats x r
    unfold inV at *
    rw [List.map_cons, List.any_cons, h, Bool.eq_iff_iff, Bool.or_eq_true, decide_eq_true_eq, decide_eq_true_eq, List.mem_cons]
    have e : (eqV (pI y) (pI x) = true) ↔ x = y := by
      show (((y : Int) == (x : Int)) = true) ↔ _
      rw [beq_iff_eq]
      omega
    rw [e]
theorem all_flat : ∀ r : List Nat, (r.map pI).all flatV = true
  | [] => rfl
  | _ :: r => by rw [List.map_cons, List.all_cons, all_flat r]; rfl
section
variable {P : Program} {w : World} {K : PySem.W.Frag} {mg : Str → Option Value} {base : Heap}
/-- tuples of points -/
abbrev Tp : Hp → V → List Nat → Prop := Tup Pt
theorem persTp : PersT Tp := persTup persPt
def sp_fours : Sp := fun vs H Q _ => ∃ n : Nat, vs = [pI n] ∧ n ≤ 10 ∧ ∀ (p : Addr) (us : List V) H', Same H H' → H p = none → H' p = some (.lst us) → Paired (Tp H') us (foursL n 4) → us.length ≤ 10000 → Q (.ref p) H'
theorem cal_fours (A : At K mg "_law_fours" s_law_fours) (B : Bi mg) : Cal P w K mg base 1 "_law_fours" sp_fours := by
  have nd := sc_law_fours.nd
  refine A.cal sc_law_fours (fun _ _ _ _ _ _ us hl => match us, hl with | [_], _ => rfl) ?_ fun f cdv A' outer s H vs Q E hr h => ⟨_, (pss_cons (ps_set (i := 1) nd rfl (.inl rfl) (pe_lst (pa_cons (pe_tup pa_nil) pa_nil)))
  (pss_cons (ps_for passOwn rfl (pi_range1 (by rfl) B.range (pa_cons pe_int pa_nil)) (pg_name (i := 2) nd rfl (.inl rfl)) (pss_cons (ps_set (i := 3) nd rfl (.inl rfl) (pe_lst pa_nil))
  (pss_cons (ps_for passOwn rfl (pi_listK (K := K) rfl (pv 1)) (pg_name (i := 4) nd rfl (.inr rfl)) (pss_one (ps_expr (pe_bm PySem.F.plainAttrs_list PySem.F.slot_list_extend PySem.F.type_list_extend mt_extend (pv 3) (pa_cons (pe_lc (own := [("x", 5)]) rfl nd (pi_range1 (by rfl) B.range (pa_cons (pv 0) pa_nil)) (blkOk_by (own := [("x", 5)]) (N := N_law_fours) (sc := defScope s_law_fours) (by decide +kernel)) (fun _ _ _ _ _ => (pg_name (i := 5) nd rfl (.inl rfl) (.inr rfl))) (fun _ _ _ _ _ => (pts_one (pt_cmpR (op_notIn_seqK (K := K) rfl) (pv 5) (pv 4) rfl))) (fun _ _ _ _ _ => (pe_op (op_catAK (K := K) rfl) (pv 4) (pe_tup (pa_cons (pv 5) pa_nil))))) pa_nil)))))
  (pss_one (ps_set (i := 1) nd rfl (.inl rfl) (pv 3))))))
  (pss_one (ps_ret (pv 1))))), ?_⟩
  · rintro vs H Q E ⟨n, rfl, _⟩
    rfl
  · obtain ⟨n, rfl, hn, q⟩ := h
    refine ⟨Nat.zero_le _, fun t0 h0 => ⟨by show 1 ≤ sizeLine; decide, fun p0 hp0 => ?_⟩⟩
    have s0 := sNew (same_laid (o := .tup []) h0) (o := .lst [.ref t0]) hp0
    refine ⟨_, rfl, by omega, by omega, ?_⟩
    refine for_range (lo := 0) (n := (4 : Int).toNat) (fun i σ H1 => ∃ p us v2 v3 v4, σ = [some (pI n), some (.ref p), v2, v3, v4, none] ∧ Same H H1 ∧ H p = none ∧ H1 p = some (.lst us) ∧ Paired (Tp H1) us (foursL n i) ∧ us.length ≤ 10 ^ i)
      ⟨p0, [.ref t0], none, none, none, rfl, s0, gone (same_laid h0) hp0, upd_same, .cons ⟨t0, [], rfl, same_laid hp0 _ _ upd_same, .nil⟩ .nil, by simp⟩ ?_ ?_
    · rintro i σ H1 hi ⟨p, us, v2, v3, v4, rfl, s1, np, hp, pr, hlu⟩
      have hi : i < 4 := hi
      refine ⟨Nat.zero_le _, fun pl hpl => ?_⟩
      have x1 := same_laid (o := .lst []) hpl
      have hlu2 : us.length ≤ 1000 := by
        have h3 : i = 0 ∨ i = 1 ∨ i = 2 ∨ i = 3 := by omega
        rcases h3 with rfl | rfl | rfl | rfl <;> omega
      have npl := gone s1 hpl
      refine ⟨_, rfl, p, rfl, ⟨_, SqL.of (x1 _ _ hp)⟩, for_list (K := K) (a := p) (xs := us) (fun j σ H2 => ∃ v4, σ = [some (pI n), some (.ref p), some (.int (0 + (i : Int))), some (.ref pl), v4, none] ∧ Same H1 H2 ∧ ∃ ws, H2 pl = some (.lst ws) ∧ Paired (Tp H2) ws (longer n ((foursL n i).take j)) ∧ ws.length ≤ j * n)
        ⟨v4, rfl, x1, [], upd_same, .nil, by simp⟩ (fun j σ H2 _ ⟨_, _, s, _⟩ => SqL.of (s _ _ hp)) ?_ ?_⟩
      · rintro j x σ H2 hx ⟨v4, rfl, s2, ws, hw, prw, hlw⟩
        obtain ⟨r, hr, hTr⟩ := pAtL (pMono persTp (sKt s2) pr) hx
        obtain ⟨tr, rvs, rfl, htr, hrp⟩ := id hTr
        have erv := pairedPt_eq hrp
        subst erv
        refine ⟨_, rfl, .inl ⟨rfl, _, SqL.of hw⟩, _, rfl, _, rfl, by omega, by omega, fun D hD => ?_⟩
        have hj : j < us.length := (List.getElem?_eq_some_iff.mp hx).1
        refine comp_range (lo := 0) (n := ((n : Nat) : Int).toNat) (sizeBig (by omega)) (fun x => if (!decide (x ∈ r)) = true then some (r ++ [x]) else none) persTp hD ?_ ?_
        · intro x H3 Yes No hx3 s3 yes no
          rw [Int.zero_add]
          have htr3 := s3 _ _ htr
          refine ⟨rfl, _, rfl, _, rfl, tr, _, rfl, .inr (SqT.of htr3), rfl, all_flat r, _, rfl, ifB (fun c => ?_) (fun c => ?_)⟩
          · have c : (!inV (pI x) (r.map pI)) = true := c
            rw [inV_nats] at c
            refine ⟨_, rfl, _, rfl, by show 1 ≤ sizeLine; decide, fun t5 h5 => ?_⟩
            have x5 := same_laid (o := .tup [pI x]) h5
            have hr5 : Tp (upd H3 t5 (.tup [pI x])) (.ref tr) r := ⟨tr, _, rfl, x5 _ _ htr3, pairedPt _ r⟩
            have ho5 : Tp (upd H3 t5 (.tup [pI x])) (.ref t5) [x] := ⟨t5, _, rfl, upd_same, .cons rfl .nil⟩
            have lr : r.length ≤ 10 := by
              have h4 : ∀ k, ∀ s ∈ foursL n k, s.length = k := fun k => by
                induction k with
                | zero => intro s hs; simp [foursL] at hs; rw [hs]; rfl
                | succ k ih =>
                  intro s hs
                  obtain ⟨r', x', hr', _, _, rfl⟩ := mem_longer.mp hs
                  rw [List.length_append, ih r' hr']
                  rfl
              rw [h4 i r (List.mem_of_getElem? hr)]
              omega
            exact catP persPt hr5 ho5 (by simp; omega) (by simp) fun v H6 s6 h6 => yes _ (if_pos c) _ _ (x5.trans s6) h6
          · have c : (!inV (pI x) (r.map pI)) = false := c
            rw [inV_nats] at c
            exact no (if_neg (by rw [c]; exact Bool.false_ne_true)) _ (Same.refl _)
        · intro H3 ys s3 hy pr3
          rw [fm_if (fun x => !decide (x ∈ r)) (fun x => r ++ [x]), show ((n : Nat) : Int).toNat = n from Int.toNat_natCast n] at pr3
          have hw3 := s3 _ _ hw
          have l3 := pr3.length
          have l4 := List.length_filter_le (fun x => !decide (x ∈ r)) (List.range n)
          rw [List.length_map] at l3
          rw [List.length_range] at l4
          have l5 : j * n ≤ 1000 * 10 := Nat.mul_le_mul (by omega) hn
          refine ⟨pl, _, _, _, rfl, rfl, hw3, hy, Nat.le_of_lt (sizeBig (by omega)), ?_⟩
          have kt : KeepT H3 (upd H3 pl (.lst (ws ++ ys))) := KeepT.lst hw3
          refine ⟨_, rfl, sPut (s2.trans s3) hpl, _, upd_same, ?_, ?_⟩
          · rw [List.take_add_one, hr]
            unfold longer at prw ⊢
            rw [List.flatMap_append]
            refine pApp (pMono persTp ((sKt s3).trans kt) prw) ?_
            simpa using pMono persTp kt pr3
          · rw [List.length_append, Nat.succ_mul]
            omega
      · rintro σ H2 ⟨v4, rfl, s2, ws, hw, prw, hlw⟩
        rw [pr.length, List.take_length] at prw
        refine ⟨_, rfl, pl, ws, _, _, _, rfl, s1.trans s2, npl, hw, prw, ?_⟩
        have : us.length * n ≤ 10 ^ i * 10 := Nat.mul_le_mul hlu hn
        rw [Nat.pow_succ]
        omega
    · rintro σ H1 ⟨p, us, v2, v3, v4, rfl, s1, np, hp, pr, hlu⟩
      exact ⟨_, rfl, q p us H1 s1 np hp pr hlu⟩
/-! ### a fifth point -/
def sp_fifth : Sp := fun vs H Q _ => ∃ (m : Addr) (rows : List Addr) (n a b c d : Nat) (T : Tm), vs = [.ref m, pI a, pI b, pI c, pI d] ∧ Mat H m rows n T ∧ (a < n ∧ b < n ∧ c < n ∧ d < n) ∧ n ≤ 1000 ∧ Q (.bl (fifth n T a b c d)) H
theorem cal_fifth (A : At K mg "_law_fifth" s_law_fifth) (B : Bi mg) : Cal P w K mg base 1 "_law_fifth" sp_fifth := by
  have nd := sc_law_fifth.nd
  refine A.cal sc_law_fifth (fun _ _ _ _ _ _ us hl => match us, hl with | [_, _, _, _, _], _ => rfl) ?_ fun f cdv A' outer s H vs Q E hr h => ⟨_, (pss_cons (ps_for passOwn rfl (pi_range1 (by rfl) B.range (pa_cons (pe_callB (call_lenK (K := K) rfl) (by rfl) B.len (by decide +kernel) (pa_cons (pv 0) pa_nil)) pa_nil)) (pg_name (i := 5) nd rfl (.inl rfl)) (pss_one (ps_if (PW.pt (pw_and (pt_val (pe_ix (ix_listK (K := K) rfl) (pe_ix (ix_listK (K := K) rfl) (pv 0) (pv 1) (fun _ _ => rfl)) (pv 5) (fun _ _ => rfl))) (pw_and (pt_val (pe_ix (ix_listK (K := K) rfl) (pe_ix (ix_listK (K := K) rfl) (pv 0) (pv 4) (fun _ _ => rfl)) (pv 5) (fun _ _ => rfl))) (pw_and (pt_not (pt_val (pe_ix (ix_listK (K := K) rfl) (pe_ix (ix_listK (K := K) rfl) (pv 0) (pv 2) (fun _ _ => rfl)) (pv 5) (fun _ _ => rfl)))) (pw_and1 (pt_not (pt_val (pe_ix (ix_listK (K := K) rfl) (pe_ix (ix_listK (K := K) rfl) (pv 0) (pv 3) (fun _ _ => rfl)) (pv 5) (fun _ _ => rfl))))))))) (pss_one (ps_ret pe_bl)) pss_nil)))
  (pss_one (ps_ret pe_bl))), ?_⟩
  · rintro vs H Q E ⟨m, rows, n, a, b, c, d, T, rfl, _⟩
    rfl
  · obtain ⟨m, rows, n, a, b, c, d, T, rfl, M, ⟨ha, hb, hc, hd⟩, hn, q⟩ := h
    have hl : (rows.map V.ref).length = n := by rw [List.length_map, M.len]
    refine ⟨_, rfl, _, _, rfl, .inl ⟨_, SqL.of M.top, rfl⟩, _, rfl, by omega, by omega, ?_⟩
    refine for_range (lo := 0) (n := (((rows.map V.ref).length : Nat) : Int).toNat) (fun i σ H1 => ∃ v, σ = [some (.ref m), some (pI a), some (pI b), some (pI c), some (pI d), v] ∧ H1 = H ∧ ∀ e, e < i → (T a e && T d e && !T b e && !T c e) = false) ⟨none, rfl, rfl, fun e h => absurd h (Nat.not_lt_zero e)⟩ ?_ ?_
    · rintro e σ H1 he ⟨v, rfl, rfl, no⟩
      have he : e < n := by omega
      rw [Int.zero_add]
      have nxt : (T a e && T d e && !T b e && !T c e) = false → ∃ v', [some (V.ref m), some (pI a), some (pI b), some (pI c), some (pI d), some (V.int (e : Int))] = [some (.ref m), some (pI a), some (pI b), some (pI c), some (pI d), v'] ∧ H1 = H1 ∧ ∀ e', e' < e + 1 → (T a e' && T d e' && !T b e' && !T c e') = false := fun h => by
        refine ⟨_, rfl, rfl, fun e' h' => ?_⟩
        by_cases z : e' = e
        · subst z
          exact h
        · exact no e' (by omega)
      refine rdM M rfl rfl rfl ha he ⟨_, rfl, ifB (fun c1 => ?_) (fun c1 => ?_)⟩
      · refine rdM M rfl rfl rfl hd he ⟨_, rfl, ifB (fun c2 => ?_) (fun c2 => ?_)⟩
        · refine rdM M rfl rfl rfl hb he ⟨_, rfl, ifN (fun c3 => ?_) (fun c3 => ?_)⟩
          · refine rdM M rfl rfl rfl hc he ⟨_, rfl, ifN (fun c4 => ?_) (fun c4 => ?_)⟩
            · rw [fifth_iff.mpr ⟨e, he, c1, c2, c3, c4⟩] at q
              exact q
            · exact nxt (by rw [c4]; simp)
          · exact nxt (by rw [c3]; simp)
        · exact nxt (by rw [c2]; simp)
      · exact nxt (by rw [c1]; simp)
    · rintro σ H1 ⟨v, rfl, rfl, no⟩
      have e : fifth n T a b c d = false := by
        cases h : fifth n T a b c d with
        | false => rfl
        | true =>
          obtain ⟨e, he, h1, h2, h3, h4⟩ := fifth_iff.mp h
          have := no e (by omega)
          rw [h1, h2, h3, h4] at this
          cases this
      rw [e] at q
      exact q
/-! ### is there a place -/
def sp_has_place : Sp := fun vs H Q _ => ∃ (m : Addr) (rows : List Addr) (n : Nat) (T : Tm) (kd : Kd), vs = [.ref m, .str (kdS kd)] ∧ Mat H m rows n T ∧ n ≤ 10 ∧ (Has n kd T → ∀ H', Same H H' → Q (.bl true) H') ∧ (¬ Has n kd T → ∀ H', Same H H' → Q (.bl false) H')
theorem kT {kd : Kd} {A B : Prop} (h : A) : if decide (V.str (kdS kd) = V.str (kdS kd)) = true then A else B := ifY rfl h
theorem kF {kd kd' : Kd} {A B : Prop} (ne : kd ≠ kd') (h : B) : if decide (V.str (kdS kd) = V.str (kdS kd')) = true then A else B := by
  refine ifX (fun e => ne ?_) h
  have e := V.str.inj e
  cases kd <;> cases kd' <;> first | rfl | exact absurd e (by decide +kernel)
theorem cal_has_place (A : At K mg "_law_has_place" s_law_has_place) (B : Bi mg) (c_law_fours : Cal P w K mg base 1 "_law_fours" sp_fours) (c_law_fifth : Cal P w K mg base 1 "_law_fifth" sp_fifth) : Cal P w K mg base 2 "_law_has_place" sp_has_place := by
  have nd := sc_law_has_place.nd
  refine A.cal sc_law_has_place (fun _ _ _ _ _ _ us hl => match us, hl with | [_, _], _ => rfl) ?_ fun f cdv A' outer s H vs Q E hr h => ⟨_, (pss_cons (ps_for passOwn rfl (pi_listK (K := K) rfl (pe_cal c_law_fours hr (by first | decide | omega) (by rfl) passE (pa_cons (pe_callB (call_lenK (K := K) rfl) (by rfl) B.len (by decide +kernel) (pa_cons (pv 0) pa_nil)) pa_nil))) (pg_tupK (K := K) (n := 4) rfl rfl (pgs_cons (pg_name (i := 2) nd rfl (.inl rfl)) (pgs_cons (pg_name (i := 3) nd rfl (.inl rfl)) (pgs_cons (pg_name (i := 4) nd rfl (.inl rfl)) (pgs_cons (pg_name (i := 5) nd rfl (.inl rfl)) pgs_nil))))) (pss_cons (ps_if (PW.pt (pw_or (pt_not (pt_val (pe_ix (ix_listK (K := K) rfl) (pe_ix (ix_listK (K := K) rfl) (pv 0) (pv 2) (fun _ _ => rfl)) (pv 3) (fun _ _ => rfl)))) (pw_or (pt_not (pt_val (pe_ix (ix_listK (K := K) rfl) (pe_ix (ix_listK (K := K) rfl) (pv 0) (pv 4) (fun _ _ => rfl)) (pv 5) (fun _ _ => rfl)))) (pw_or1 (pt_val (pe_ix (ix_listK (K := K) rfl) (pe_ix (ix_listK (K := K) rfl) (pv 0) (pv 3) (fun _ _ => rfl)) (pv 5) (fun _ _ => rfl))))))) (pss_one ps_continue) pss_nil)
  (pss_cons (ps_if (PW.pt (pw_and (pt_cmpR op_eq (pv 1) pe_str (nomark _)) (pw_and1 (pt_not (pt_val (pe_ix (ix_listK (K := K) rfl) (pe_ix (ix_listK (K := K) rfl) (pv 0) (pv 2) (fun _ _ => rfl)) (pv 4) (fun _ _ => rfl))))))) (pss_one (ps_ret pe_bl)) pss_nil)
  (pss_cons (ps_if (PW.pt (pw_and (pt_cmpR op_eq (pv 1) pe_str (nomark _)) (pw_and (pt_val (pe_ix (ix_listK (K := K) rfl) (pe_ix (ix_listK (K := K) rfl) (pv 0) (pv 3) (fun _ _ => rfl)) (pv 4) (fun _ _ => rfl))) (pw_and1 (pt_not (pt_val (pe_ix (ix_listK (K := K) rfl) (pe_ix (ix_listK (K := K) rfl) (pv 0) (pv 2) (fun _ _ => rfl)) (pv 4) (fun _ _ => rfl)))))))) (pss_one (ps_ret pe_bl)) pss_nil)
  (pss_cons (ps_if (PW.pt (pw_and (pt_cmpR op_eq (pv 1) pe_str (nomark _)) (pw_and (pt_val (pe_ix (ix_listK (K := K) rfl) (pe_ix (ix_listK (K := K) rfl) (pv 0) (pv 3) (fun _ _ => rfl)) (pv 4) (fun _ _ => rfl))) (pw_and (pt_not (pt_val (pe_ix (ix_listK (K := K) rfl) (pe_ix (ix_listK (K := K) rfl) (pv 0) (pv 2) (fun _ _ => rfl)) (pv 4) (fun _ _ => rfl)))) (pw_and1 (pt_not (pt_val (pe_ix (ix_listK (K := K) rfl) (pe_ix (ix_listK (K := K) rfl) (pv 0) (pv 2) (fun _ _ => rfl)) (pv 5) (fun _ _ => rfl))))))))) (pss_one (ps_ret pe_bl)) pss_nil)
  (pss_cons (ps_if (PW.pt (pw_and (pt_cmpR op_eq (pv 1) pe_str (nomark _)) (pw_and (pt_cmpR op_eq (pe_ix (ix_listK (K := K) rfl) (pe_ix (ix_listK (K := K) rfl) (pv 0) (pv 3) (fun _ _ => rfl)) (pv 4) (fun _ _ => rfl)) (pe_ix (ix_listK (K := K) rfl) (pe_ix (ix_listK (K := K) rfl) (pv 0) (pv 2) (fun _ _ => rfl)) (pv 5) (fun _ _ => rfl)) (nomark _)) (pw_and1 (pt_not (pt_val (pe_ix (ix_listK (K := K) rfl) (pe_ix (ix_listK (K := K) rfl) (pv 0) (pv 2) (fun _ _ => rfl)) (pv 4) (fun _ _ => rfl)))))))) (pss_one (ps_ret pe_bl)) pss_nil)
  (pss_one (ps_if (PW.pt (pw_and (pt_cmpR op_eq (pv 1) pe_str (nomark _)) (pw_and (pt_val (pe_ix (ix_listK (K := K) rfl) (pe_ix (ix_listK (K := K) rfl) (pv 0) (pv 3) (fun _ _ => rfl)) (pv 4) (fun _ _ => rfl))) (pw_and (pt_not (pt_val (pe_ix (ix_listK (K := K) rfl) (pe_ix (ix_listK (K := K) rfl) (pv 0) (pv 2) (fun _ _ => rfl)) (pv 4) (fun _ _ => rfl)))) (pw_and (pt_not (pt_val (pe_ix (ix_listK (K := K) rfl) (pe_ix (ix_listK (K := K) rfl) (pv 0) (pv 2) (fun _ _ => rfl)) (pv 5) (fun _ _ => rfl)))) (pw_and1 (pt_val (pe_cal c_law_fifth hr (by first | decide | omega) (by rfl) passE (pa_cons (pv 0) (pa_cons (pv 2) (pa_cons (pv 3) (pa_cons (pv 4) (pa_cons (pv 5) pa_nil))))))))))))) (pss_one (ps_ret pe_bl)) pss_nil))))))))
  (pss_one (ps_ret pe_bl))), ?_⟩
  · rintro vs H Q E ⟨m, rows, n, T, kd, rfl, _⟩
    rfl
  · obtain ⟨m, rows, n, T, kd, rfl, M, hn, q1, q2⟩ := h
    have hl : (rows.map V.ref).length = n := by rw [List.length_map, M.len]
    refine ⟨_, rfl, _, _, rfl, .inl ⟨_, SqL.of M.top, rfl⟩, n, by rw [hl]; rfl, hn, fun p us H1 s1 np hp pr hlu => ?_⟩
    have M1 := M.same s1
    refine ⟨p, rfl, ⟨_, SqL.of hp⟩, for_list (K := K) (a := p) (xs := us) (fun i σ H2 => ∃ v2 v3 v4 v5, σ = [some (.ref m), some (.str (kdS kd)), v2, v3, v4, v5] ∧ H2 = H1 ∧ ∀ a b c d, [a, b, c, d] ∈ (foursL n 4).take i → placeAt n kd T a b c d = false) ⟨none, none, none, none, rfl, rfl, fun a b c d h => by simp at h⟩ (fun i σ H2 _ ⟨_, _, _, _, _, e, _⟩ => by rw [e]; exact SqL.of hp) ?_ ?_⟩
    · rintro i x σ H2 hx ⟨v2, v3, v4, v5, rfl, rfl, no⟩
      obtain ⟨r, hr, t, rvs, rfl, ht, hrp⟩ := pAtL pr hx
      have hrm := List.mem_of_getElem? hr
      obtain ⟨a, b, c, d, rfl, F⟩ := mem_fours.mp hrm
      have erv := pairedPt_eq hrp
      subst erv
      obtain ⟨⟨ha, hb, hc, hd⟩, _⟩ := id F
      have yes : placeAt n kd T a b c d = true → Q (.bl true) H2 := fun h => q1 ⟨a, b, c, d, F, h⟩ H2 s1
      have nxt : placeAt n kd T a b c d = false → ∃ w2 w3 w4 w5, [some (V.ref m), some (V.str (kdS kd)), some (pI a), some (pI b), some (pI c), some (pI d)] = [some (.ref m), some (.str (kdS kd)), w2, w3, w4, w5] ∧ H2 = H2 ∧ ∀ a' b' c' d', [a', b', c', d'] ∈ (foursL n 4).take (i + 1) → placeAt n kd T a' b' c' d' = false := fun h => by
        refine ⟨_, _, _, _, rfl, rfl, fun a' b' c' d' h' => ?_⟩
        rw [List.take_add_one, hr] at h'
        rcases List.mem_append.mp h' with h'' | h''
        · exact no a' b' c' d' h''
        · have e : [a', b', c', d'] = [a, b, c, d] := by simpa using h''
          cases e
          exact h
      refine ⟨t, _, rfl, SqT.of ht, rfl, _, _, rfl, _, _, rfl, _, _, rfl, _, _, rfl, rfl, ?_⟩
      refine rdM M1 rfl rfl rfl ha hb ⟨_, rfl, ifN (fun c1 => ?_) (fun c1 => ?_)⟩
      · exact iteT (nxt (by unfold placeAt; rw [c1]; rfl))
      refine rdM M1 rfl rfl rfl hc hd ⟨_, rfl, ifN (fun c2 => ?_) (fun c2 => ?_)⟩
      · exact iteT (nxt (by unfold placeAt; rw [c2]; simp))
      refine rdM M1 rfl rfl rfl hb hd ⟨_, rfl, ifB (fun c3 => ?_) (fun c3 => ?_)⟩
      · exact nxt (by unfold placeAt; rw [c3]; simp)
      have base : ∀ {r : Bool}, ((T a b && T c d && !T b d) && r) = r := fun {r} => by rw [c1, c2, c3]; simp
      cases kd with
      | threshold =>
        refine ⟨_, rfl, rfl, _, rfl, kT (kd := .threshold) ?_⟩
        refine rdM M1 rfl rfl rfl ha hc ⟨_, rfl, ifN (fun c4 => yes (by unfold placeAt; rw [base]; dsimp only; rw [c4]; rfl)) (fun c4 => ?_)⟩
        refine ⟨_, rfl, rfl, _, rfl, kF (kd := .threshold) (kd' := .nested) (by decide) ?_⟩
        refine ⟨_, rfl, rfl, _, rfl, kF (kd := .threshold) (kd' := .cograph) (by decide) ?_⟩
        refine ⟨_, rfl, rfl, _, rfl, kF (kd := .threshold) (kd' := .split) (by decide) ?_⟩
        refine ⟨_, rfl, rfl, _, rfl, kF (kd := .threshold) (kd' := .split) (by decide) ?_⟩
        exact nxt (by unfold placeAt; rw [base]; dsimp only; rw [c4]; rfl)
      | nested =>
        refine ⟨_, rfl, rfl, _, rfl, kF (kd := .nested) (kd' := .threshold) (by decide) ?_⟩
        refine ⟨_, rfl, rfl, _, rfl, kT (kd := .nested) ?_⟩
        refine rdM M1 rfl rfl rfl hb hc ⟨_, rfl, ifB (fun c4 => ?_) (fun c4 => ?_)⟩
        · refine rdM M1 rfl rfl rfl ha hc ⟨_, rfl, ifN (fun c5 => yes (by unfold placeAt; rw [base]; dsimp only; rw [c4, c5]; rfl)) (fun c5 => ?_)⟩
          refine ⟨_, rfl, rfl, _, rfl, kF (kd := .nested) (kd' := .cograph) (by decide) ?_⟩
          refine ⟨_, rfl, rfl, _, rfl, kF (kd := .nested) (kd' := .split) (by decide) ?_⟩
          refine ⟨_, rfl, rfl, _, rfl, kF (kd := .nested) (kd' := .split) (by decide) ?_⟩
          exact nxt (by unfold placeAt; rw [base]; dsimp only; rw [c5]; simp)
        · skip
          refine ⟨_, rfl, rfl, _, rfl, kF (kd := .nested) (kd' := .cograph) (by decide) ?_⟩
          refine ⟨_, rfl, rfl, _, rfl, kF (kd := .nested) (kd' := .split) (by decide) ?_⟩
          refine ⟨_, rfl, rfl, _, rfl, kF (kd := .nested) (kd' := .split) (by decide) ?_⟩
          exact nxt (by unfold placeAt; rw [base]; dsimp only; rw [c4]; rfl)
      | cograph =>
        refine ⟨_, rfl, rfl, _, rfl, kF (kd := .cograph) (kd' := .threshold) (by decide) ?_⟩
        refine ⟨_, rfl, rfl, _, rfl, kF (kd := .cograph) (kd' := .nested) (by decide) ?_⟩
        refine ⟨_, rfl, rfl, _, rfl, kT (kd := .cograph) ?_⟩
        refine rdM M1 rfl rfl rfl hb hc ⟨_, rfl, ifB (fun c4 => ?_) (fun c4 => ?_)⟩
        · refine rdM M1 rfl rfl rfl ha hc ⟨_, rfl, ifN (fun c5 => ?_) (fun c5 => ?_)⟩
          · refine rdM M1 rfl rfl rfl ha hd ⟨_, rfl, ifN (fun c6 => yes (by unfold placeAt; rw [base]; dsimp only; rw [c4, c5, c6]; rfl)) (fun c6 => ?_)⟩
            refine ⟨_, rfl, rfl, _, rfl, kF (kd := .cograph) (kd' := .split) (by decide) ?_⟩
            refine ⟨_, rfl, rfl, _, rfl, kF (kd := .cograph) (kd' := .split) (by decide) ?_⟩
            exact nxt (by unfold placeAt; rw [base]; dsimp only; rw [c6]; simp)
          · skip
            refine ⟨_, rfl, rfl, _, rfl, kF (kd := .cograph) (kd' := .split) (by decide) ?_⟩
            refine ⟨_, rfl, rfl, _, rfl, kF (kd := .cograph) (kd' := .split) (by decide) ?_⟩
            exact nxt (by unfold placeAt; rw [base]; dsimp only; rw [c5]; simp)
        · skip
          refine ⟨_, rfl, rfl, _, rfl, kF (kd := .cograph) (kd' := .split) (by decide) ?_⟩
          refine ⟨_, rfl, rfl, _, rfl, kF (kd := .cograph) (kd' := .split) (by decide) ?_⟩
          exact nxt (by unfold placeAt; rw [base]; dsimp only; rw [c4]; rfl)
      | split =>
        refine ⟨_, rfl, rfl, _, rfl, kF (kd := .split) (kd' := .threshold) (by decide) ?_⟩
        refine ⟨_, rfl, rfl, _, rfl, kF (kd := .split) (kd' := .nested) (by decide) ?_⟩
        refine ⟨_, rfl, rfl, _, rfl, kF (kd := .split) (kd' := .cograph) (by decide) ?_⟩
        refine ⟨_, rfl, rfl, _, rfl, kT (kd := .split) ?_⟩
        have ep : placeAt n .split T a b c d = ((T b c == T a d && !T a c) || (T b c && !T a c && !T a d && fifth n T a b c d)) := by unfold placeAt; rw [base]
        rw [ep] at yes nxt
        refine rdM M1 rfl rfl rfl hb hc ?_
        refine rdM M1 rfl rfl rfl ha hd ⟨rfl, _, rfl, ifD (fun c4 => ?_) (fun c4 => ?_)⟩
        · have c4 : T b c = T a d := V.bl.inj c4
          refine rdM M1 rfl rfl rfl ha hc ⟨_, rfl, ifN (fun c5 => yes (by rw [c4, c5]; simp)) (fun c5 => ?_)⟩
          refine ⟨_, rfl, rfl, _, rfl, kT (kd := .split) ?_⟩
          refine rdM M1 rfl rfl rfl hb hc ⟨_, rfl, ifB (fun c6 => ?_) (fun c6 => ?_)⟩
          · refine rdM M1 rfl rfl rfl ha hc ⟨_, rfl, ifN (fun c7 => ?_) (fun c7 => ?_)⟩
            · rw [c5] at c7
              cases c7
            · exact nxt (by rw [c5]; simp)
          · exact nxt (by rw [c5]; simp)
        · have c4 : ¬ T b c = T a d := fun e => c4 (congrArg V.bl e)
          have e4 : (T b c == T a d && !T a c) = false := by rw [beq_eq_false_iff_ne.mpr c4]; rfl
          rw [e4, Bool.false_or] at yes nxt
          refine ⟨_, rfl, rfl, _, rfl, kT (kd := .split) ?_⟩
          refine rdM M1 rfl rfl rfl hb hc ⟨_, rfl, ifB (fun c6 => ?_) (fun c6 => ?_)⟩
          · refine rdM M1 rfl rfl rfl ha hc ⟨_, rfl, ifN (fun c7 => ?_) (fun c7 => ?_)⟩
            · refine rdM M1 rfl rfl rfl ha hd ⟨_, rfl, ifN (fun c8 => ?_) (fun c8 => ?_)⟩
              · refine ⟨_, rfl, _, rfl, _, rfl, _, rfl, _, rfl, m, rows, n, a, b, c, d, T, rfl, M1, ⟨ha, hb, hc, hd⟩, by omega, _, rfl, ifB (fun c9 => ?_) (fun c9 => ?_)⟩
                · exact yes (by rw [c6, c7, c8, c9]; rfl)
                · exact nxt (by rw [c9]; simp)
              · exact nxt (by rw [c8]; simp)
            · exact nxt (by rw [c7]; simp)
          · exact nxt (by rw [c6]; rfl)
    · rintro σ H2 ⟨v2, v3, v4, v5, rfl, rfl, no⟩
      rw [pr.length, List.take_length] at no
      refine q2 (fun h => ?_) H2 s1
      obtain ⟨a, b, c, d, F, h⟩ := h
      rw [no a b c d (mem_fours.mpr ⟨a, b, c, d, rfl, F⟩)] at h
      cases h
end
end Ns

/-! Own layer: the law's going through all sets of pairs, walked. -/
namespace Ns
open PySem PySem.Spec PyProof.Rows L2
local macro_rules | `(tactic| walk_at "look") => `(tactic| first | assumption | exact upd_same | (refine (upd_ne (by first | assumption | exact Ne.symm (by assumption))).trans ?_; walk_at "look"))
local macro_rules | `(tactic| walk_at "cond") => `(tactic| first | assumption | omega | (dsimp only; omega) | exact ⟨by omega, by omega⟩ | decide | exact ⟨by decide, by decide, by decide⟩ | exact .inr ⟨by decide, by decide⟩ | exact .inl ⟨by decide, by decide⟩ | exact .inr ⟨by omega, by omega⟩ | exact .inl ⟨by omega, by omega⟩)
local macro_rules | `(tactic| walk_at "rd1") => `(tactic| first
  | refine ⟨_, rfl, ?_⟩
  | refine ⟨_, _, rfl, rfl, ?_⟩
  | refine ⟨rfl, ?_⟩
  | refine ⟨_, _, rfl, rfl, (by walk_at "cond"), ?_⟩
  | refine ⟨_, _, _, _, rfl, rfl, SqL.of (by walk_at "look"), rfl, ?_⟩
  | refine ⟨_, _, _, _, rfl, rfl, SqT.of (by walk_at "look"), rfl, ?_⟩
  | refine ⟨_, _, _, _, rfl, rfl, (by walk_at "look"), rfl, ?_⟩
  | refine .inl ⟨_, rfl, ?_⟩
  | refine ⟨.inl ⟨rfl, _, SqL.of (by walk_at "look")⟩, ?_⟩
  | refine ⟨_, _, rfl, ⟨by omega, by omega, by omega, by omega⟩, ?_⟩
  | refine ⟨_, rfl, (by omega), (by omega), ?_⟩
  | refine And.intro (by walk_at "cond") ?_)
local macro_rules | `(tactic| walk_at "rd") => `(tactic| repeat (walk_at "rd1"))

abbrev s_law_least : Stmt := top 35
abbrev N_law_least : List Str := ["tied", "kind", "most", "sets", "many", "pairs", "longer", "pair"]
theorem sc_law_least : FnScope N_law_least ["tied", "kind", "most"] (defScope s_law_least) := ⟨rfl, rfl, rfl, by decide +kernel, rfl, by decide +kernel, by decide +kernel⟩
theorem flipL_snoc {T : Tm} {L : List (Nat × Nat)} {q : Nat × Nat} (hq : q.1 < q.2) (h : q ∉ L) (i j : Nat) : flip1 (flipL T L) q.1 q.2 i j = flipL T (L ++ [q]) i j := by
  have en : nrm (q.1, q.2) = q := by
    unfold nrm
    exact Prod.ext (by dsimp only; omega) (by dsimp only; omega)
  unfold flip1 flipL
  by_cases e : (i = q.1 ∧ j = q.2) ∨ (i = q.2 ∧ j = q.1)
  · have e2 := flip1_iff.mp e
    rw [en] at e2
    rw [if_pos e, e2, decide_eq_false h, decide_eq_true (List.mem_append.mpr (.inr (List.mem_singleton.mpr rfl)))]
    cases T i j <;> rfl
  · have e2 : nrm (i, j) ≠ q := fun h => e (flip1_iff.mpr (h.trans en.symm))
    rw [if_neg e]
    congr 1
    refine decide_eq_decide.mpr ⟨fun h => List.mem_append.mpr (.inl h), fun h => (List.mem_append.mp h).resolve_right fun h2 => e2 (List.mem_singleton.mp h2)⟩
theorem Mat.paired {H : Hp} {m : Addr} {rows : List Addr} {n : Nat} {T : Tm} (M : Mat H m rows n T) : Paired (fun (x : V) (i : Nat) => ∃ a, x = .ref a ∧ H a = some (.lst (rowV n (T i)))) (rows.map V.ref) (List.range n) := by
  have go : ∀ (l : List Addr) (k : Nat), (∀ i a, l[i]? = some a → H a = some (.lst (rowV n (T (k + i))))) → Paired (fun (x : V) (i : Nat) => ∃ a, x = .ref a ∧ H a = some (.lst (rowV n (T i)))) (l.map V.ref) (List.range' k l.length) := by
    intro l
    induction l with
    | nil => intro k _; exact .nil
    | cons a l ih =>
      intro k h
      refine .cons ⟨a, rfl, h 0 a rfl⟩ (ih (k + 1) fun i b hb => ?_)
      have := h (i + 1) b hb
      rw [show k + (i + 1) = k + 1 + i by omega] at this
      exact this
  have h := go rows 0 fun i a e => by rw [Nat.zero_add]; exact M.at_ i a e
  rw [M.len] at h
  rw [List.range_eq_range']
  exact h
/-! ### all increasing rows of pairs -/
def after (s : List (Nat × Nat)) (p : Nat × Nat) : Bool := match s.getLast? with
  | none => true
  | some q => decide (ltP q p)
def grow (n : Nat) (L : List (List (Nat × Nat))) : List (List (Nat × Nat)) := L.flatMap fun s => ((allPairs n).filter (after s)).map fun p => s ++ [p]
def incL (n : Nat) : Nat → List (List (Nat × Nat))
  | 0 => [[]]
  | k + 1 => grow n (incL n k)
theorem last_sorted {s : List (Nat × Nat)} {p : Nat × Nat} (h : s.Pairwise ltP) : (s ++ [p]).Pairwise ltP ↔ after s p = true := by
  rw [List.pairwise_append]
  unfold after
  cases e : s.getLast? with
  | none =>
    rw [List.getLast?_eq_none_iff] at e
    subst e
    simp
  | some q =>
    obtain ⟨s', rfl⟩ := List.getLast?_eq_some_iff.mp e
    constructor
    · rintro ⟨_, _, h3⟩
      exact decide_eq_true (h3 q (by simp) p (by simp))
    · intro h2
      have h2 := of_decide_eq_true h2
      refine ⟨h, List.pairwise_singleton .., fun a ha b hb => ?_⟩
      rw [List.mem_singleton.mp hb]
      rcases List.mem_append.mp ha with ha | ha
      · exact ltP_trans ((List.pairwise_append.mp h).2.2 a ha q (by simp)) h2
      · rw [List.mem_singleton.mp ha]
        exact h2
theorem mem_incL {n : Nat} : ∀ {k : Nat} {s : List (Nat × Nat)}, s ∈ incL n k ↔ s.length = k ∧ s.Pairwise ltP ∧ ∀ p ∈ s, p ∈ allPairs n
  | 0, s => by
    show s ∈ [[]] ↔ _
    rw [List.mem_singleton]
    constructor
    · rintro rfl
      exact ⟨rfl, .nil, fun _ h => absurd h List.not_mem_nil⟩
    · rintro ⟨h, _⟩
      exact List.length_eq_zero_iff.mp h
  | k + 1, s => by
    show s ∈ grow n (incL n k) ↔ _
    unfold grow
    rw [List.mem_flatMap]
    constructor
    · rintro ⟨r, hr, h⟩
      obtain ⟨p, hp, rfl⟩ := List.mem_map.mp h
      obtain ⟨h1, h2, h3⟩ := mem_incL.mp hr
      obtain ⟨h4, h5⟩ := List.mem_filter.mp hp
      refine ⟨by rw [List.length_append, h1]; rfl, (last_sorted h2).mpr h5, fun q hq => ?_⟩
      rcases List.mem_append.mp hq with hq | hq
      · exact h3 q hq
      · rw [List.mem_singleton.mp hq]
        exact h4
    · rintro ⟨h1, h2, h3⟩
      have hne : s ≠ [] := fun e => by rw [e] at h1; cases h1
      have es := List.dropLast_concat_getLast hne
      have hd : s.dropLast.Pairwise ltP := h2.sublist (List.dropLast_sublist s)
      refine ⟨s.dropLast, mem_incL.mpr ⟨by rw [List.length_dropLast, h1]; rfl, hd, fun p hp => h3 p ((List.dropLast_sublist s).subset hp)⟩, List.mem_map.mpr ⟨s.getLast hne, List.mem_filter.mpr ⟨h3 _ (List.getLast_mem hne), ?_⟩, es⟩⟩
      rw [← last_sorted hd, es]
      exact h2
theorem grow_len {n : Nat} : ∀ L : List (List (Nat × Nat)), (grow n L).length ≤ L.length * (n * n)
  | [] => by simp [grow]
  | r :: L => by
    have h := grow_len (n := n) L
    unfold grow at *
    rw [List.flatMap_cons, List.length_append, List.length_map, List.length_cons, Nat.succ_mul]
    have h1 := List.length_filter_le (after r) (allPairs n)
    have h2 := allPairs_len n
    omega
theorem free_inc {n : Nat} {kd : Kd} {T : Tm} {m : Nat} : Free n kd T m [] ↔ ∃ r s, r ≤ m ∧ s ∈ incL n r ∧ ¬ Has n kd (flipL T s) := by
  constructor
  · rintro ⟨S, ⟨nd, hS⟩, hl, _, no⟩
    have hm : ∀ p, p ∈ (allPairs n).filter (fun p => decide (p ∈ S)) ↔ p ∈ S := fun p => by
      rw [List.mem_filter, decide_eq_true_eq]
      exact ⟨fun h => h.2, fun h => ⟨mem_allPairs.mpr (hS p h), h⟩⟩
    have so : ((allPairs n).filter fun p => decide (p ∈ S)).Pairwise ltP := (allPairs_sorted n).filter _
    have nd2 : ((allPairs n).filter fun p => decide (p ∈ S)).Nodup := so.imp fun {a b} h e => by
      subst e
      unfold ltP at h
      omega
    have pm := (List.perm_ext_iff_of_nodup nd2 nd).mpr hm
    refine ⟨S.length, _, hl, mem_incL.mpr ⟨pm.length_eq, so, fun p hp => (List.mem_filter.mp hp).1⟩, fun h => no (h.congr fun i j _ _ => flipL_perm pm i j)⟩
  · rintro ⟨r, s, hr, hs, no⟩
    obtain ⟨h1, h2, h3⟩ := mem_incL.mp hs
    refine ⟨s, ⟨h2.imp fun {a b} h e => ?_, fun p hp => mem_allPairs.mp (h3 p hp)⟩, by omega, fun _ _ => List.not_mem_nil, no⟩
    subst e
    unfold ltP at h
    omega
theorem atI_last {α : Type} {xs : List α} {x : α} (h : xs.getLast? = some x) : atI xs (-1) = some x := by
  obtain ⟨l, rfl⟩ := List.getLast?_eq_some_iff.mp h
  have hl : (l ++ [x]).length = l.length + 1 := by simp
  have e : ixN (l ++ [x]).length (-1) = some l.length := by
    unfold ixN
    rw [if_neg (by omega), if_pos (by omega)]
    congr 1
    omega
  unfold atI
  rw [e]
  simp
section
variable {P : Program} {w : World} {K : PySem.W.Frag} {mg : Str → Option Value} {base : Heap}
def sp_flip : Sp := fun vs H Q _ => ∃ (m : Addr) (rows : List Addr) (n : Nat) (T : Tm) (v : V) (S : List (Nat × Nat)), vs = [.ref m, v] ∧ Mat H m rows n T ∧ n ≤ 100 ∧ Tup Pr H v S ∧ NormS n S ∧ ∀ (m2 : Addr) (rows2 : List Addr) H', Same H H' → Mat H' m2 rows2 n (flipL T S) → Q (.ref m2) H'
theorem cal_flip (A : At K mg "_law_flip" s_law_flip) (B : Bi mg) : Cal P w K mg base 1 "_law_flip" sp_flip := by
  have nd := sc_law_flip.nd
  refine A.cal sc_law_flip (fun _ _ _ _ _ _ us hl => match us, hl with | [_, _], _ => rfl) ?_ fun f cdv A' outer s H vs Q E hr h => ⟨_, (pss_cons (ps_setLc (i := 2) (own := [("row", 5)]) rfl nd rfl rfl (sw_true rfl rfl rfl (by decide +kernel)) (pi_listK (K := K) rfl (pv 0)) (blkOk_by (own := [("row", 5)]) (N := N_law_flip) (sc := defScope s_law_flip) (by decide +kernel)) (fun _ _ _ _ _ => (pg_name (i := 5) nd rfl (.inl rfl) (.inr rfl))) (fun _ _ _ _ _ => pts_nil) (fun _ _ _ _ _ => (pe_callTy (call_list_ofK (K := K) rfl) (by rfl) B.list (by decide +kernel) (pa_cons (pv 5) pa_nil))))
  (pss_cons (ps_for passOwn rfl (pi_tupK (K := K) rfl (pv 1)) (pg_tupK (K := K) (n := 2) rfl rfl (pgs_cons (pg_name (i := 3) nd rfl (.inl rfl)) (pgs_cons (pg_name (i := 4) nd rfl (.inl rfl)) pgs_nil))) (pss_cons (ps_asg (pe_not (pe_ix (ix_listK (K := K) rfl) (pe_ix (ix_listK (K := K) rfl) (pv 2) (pv 3) (fun _ _ => rfl)) (pv 4) (fun _ _ => rfl))) (pg_sub (pe_ix (ix_listK (K := K) rfl) (pv 2) (pv 3) (fun _ _ => rfl)) (pv 4) set_list))
  (pss_one (ps_asg (pe_not (pe_ix (ix_listK (K := K) rfl) (pe_ix (ix_listK (K := K) rfl) (pv 2) (pv 4) (fun _ _ => rfl)) (pv 3) (fun _ _ => rfl))) (pg_sub (pe_ix (ix_listK (K := K) rfl) (pv 2) (pv 4) (fun _ _ => rfl)) (pv 3) set_list)))))
  (pss_one (ps_ret (pv 2))))), ?_⟩
  · rintro vs H Q E ⟨m, rows, n, T, v, S, rfl, _⟩
    rfl
  · obtain ⟨m, rows, n, T, v, S, rfl, M, hn, hT, hS, q⟩ := h
    obtain ⟨t, us, rfl, ht, pr⟩ := hT
    refine ⟨_, rfl, m, rfl, ⟨_, SqL.of M.top⟩, fun D hD => ?_⟩
    refine comp_rowsL (K := K) (ds := List.range n) (fun i => rowV n (T i)) (fun H x i => ∃ a, x = V.ref a ∧ H a = some (.lst (rowV n (T i)))) hD M.top (by rw [List.length_map, M.len]; exact sizeBig (by omega)) (fun H' s => (M.same s).paired) ?_ ?_
    · rintro i x H2 Yes No hi ⟨a, rfl, ha⟩ s2 yes
      exact ⟨rfl, _, rfl, a, _, rfl, .inl (SqL.of ha), fun l hl => yes l _ (same_laid hl) hl upd_same⟩
    · intro H2 rows2 s2 hy rw2
      have M2 : Mat H2 D rows2 n (flipL T []) := (rows_mat hy rw2).congr fun i j _ _ => (flipL_nil T i j).symm
      have new := rw2.new
      refine ⟨_, rfl, t, rfl, ⟨_, SqT.of (s2 _ _ ht)⟩, for_tup (K := K) (a := t) (xs := us) (fun i σ H1 => ∃ v3 v4, σ = [some (.ref m), some (.ref t), some (.ref D), v3, v4, none] ∧ Same H H1 ∧ Mat H1 D rows2 n (flipL T (S.take i))) ⟨none, none, rfl, s2, M2⟩ (fun i σ H1 _ ⟨_, _, _, s1, _⟩ => SqT.of (s1 _ _ ht)) ?_ ?_⟩
      · rintro i x σ H1 hx ⟨v3, v4, rfl, s1, M1⟩
        obtain ⟨p, hp, tp, rfl, htp⟩ := pAtL pr hx
        have hb := hS.2 p (List.mem_of_getElem? hp)
        have hxy : p.1 ≠ p.2 := by omega
        have h1 : p.1 < n := by omega
        refine ⟨tp, _, rfl, SqT.of (s1 _ _ htp), rfl, _, _, rfl, _, _, rfl, rfl, ?_⟩
        refine rdM M1 rfl rfl rfl h1 hb.2 ⟨_, rfl, ?_⟩
        refine wrM M1 rfl rfl rfl h1 hb.2 fun H3 M3 o3 _ => ?_
        refine rdM M3 rfl rfl rfl hb.2 h1 ⟨_, rfl, ?_⟩
        refine wrM M3 rfl rfl rfl hb.2 h1 fun H4 M4 o4 _ => ?_
        refine ⟨_, _, rfl, Out.same s1 new (o3.trans o4), M4.congr fun a b _ _ => ?_⟩
        have e : setT (flipL T (S.take i)) p.1 p.2 (!flipL T (S.take i) p.1 p.2) p.2 p.1 = flipL T (S.take i) p.2 p.1 := by
          unfold setT
          rw [if_neg (fun h => hxy h.1.symm)]
        rw [e, flip1_set _ hxy, List.take_add_one, hp]
        refine flipL_snoc hb.1 (fun hm => ?_) a b
        have hlt := (List.getElem?_eq_some_iff.mp hp).1
        obtain ⟨j, hj, ej⟩ := List.mem_take_iff_getElem.mp hm
        have := (List.getElem?_inj hlt hS.1).mp (hp.trans (by rw [← ej]; simp : some p = S[j]?))
        omega
      · rintro σ H1 ⟨v3, v4, rfl, s1, M1⟩
        rw [pr.length, List.take_length] at M1
        exact ⟨_, rfl, q D rows2 H1 s1 M1⟩
/-! ### the fewest pairs -/
def Least (n : Nat) (kd : Kd) (T : Tm) (most r : Nat) : Prop := (r ≤ most ∧ Free n kd T r [] ∧ ∀ r', r' < r → ¬ Free n kd T r' []) ∨ (r = most + 1 ∧ ∀ r', r' ≤ most → ¬ Free n kd T r' [])
abbrev Ps : Hp → V → List (Nat × Nat) → Prop := Tup Pr
theorem persPs : PersT Ps := persTup persPr
def sp_least : Sp := fun vs H Q _ => ∃ (m : Addr) (rows : List Addr) (n : Nat) (T : Tm) (kd : Kd) (most : Nat), vs = [.ref m, .str (kdS kd), .int (most : Int)] ∧ Mat H m rows n T ∧ n ≤ 6 ∧ most ≤ 3 ∧ ∀ r, Least n kd T most r → ∀ H', Same H H' → Q (.int (r : Int)) H'
theorem cal_least (A : At K mg "_law_least" s_law_least) (B : Bi mg) (c_law_pairs : Cal P w K mg base 1 "_law_pairs" sp_pairs) (c_law_flip : Cal P w K mg base 1 "_law_flip" sp_flip) (c_law_has_place : Cal P w K mg base 2 "_law_has_place" sp_has_place) : Cal P w K mg base 3 "_law_least" sp_least := by
  have nd := sc_law_least.nd
  refine A.cal sc_law_least (fun _ _ _ _ _ _ us hl => match us, hl with | [_, _, _], _ => rfl) ?_ fun f cdv A' outer s H vs Q E hr h => ⟨_, (pss_cons (ps_set (i := 3) nd rfl (.inl rfl) (pe_lst (pa_cons (pe_tup pa_nil) pa_nil)))
  (pss_cons (ps_for passOwn rfl (pi_range1 (by rfl) B.range (pa_cons (pe_op op_add (pv 2) pe_int) pa_nil)) (pg_name (i := 4) nd rfl (.inl rfl)) (pss_cons (ps_for passOwn rfl (pi_listK (K := K) rfl (pv 3)) (pg_name (i := 5) nd rfl (.inr rfl)) (pss_one (ps_if (pt_not (pt_val (pe_cal c_law_has_place hr (by first | decide | omega) (by rfl) passE (pa_cons (pe_cal c_law_flip hr (by first | decide | omega) (by rfl) passE (pa_cons (pv 0) (pa_cons (pv 5) pa_nil))) (pa_cons (pv 1) pa_nil))))) (pss_one (ps_ret (pv 4))) pss_nil)))
  (pss_cons (ps_set (i := 6) nd rfl (.inl rfl) (pe_lst pa_nil))
  (pss_cons (ps_for passOwn rfl (pi_listK (K := K) rfl (pv 3)) (pg_name (i := 5) nd rfl (.inr rfl)) (pss_one (ps_expr (pe_bm PySem.F.plainAttrs_list PySem.F.slot_list_extend PySem.F.type_list_extend mt_extend (pv 6) (pa_cons (pe_lc (own := [("pair", 7)]) rfl nd (pi_listK (K := K) rfl (pe_cal c_law_pairs hr (by first | decide | omega) (by rfl) passE (pa_cons (pe_callB (call_lenK (K := K) rfl) (by rfl) B.len (by decide +kernel) (pa_cons (pv 0) pa_nil)) pa_nil))) (blkOk_by (own := [("pair", 7)]) (N := N_law_least) (sc := defScope s_law_least) (by decide +kernel)) (fun _ _ _ _ _ => (pg_name (i := 7) nd rfl (.inl rfl) (.inr rfl))) (fun _ _ _ _ _ => (pts_one (PW.pt (pw_or (pt_not (pt_truthK (K := K) rfl (pv 5) (by intro _; rfl))) (pw_or1 (pt_cmpR (op_gtTK (K := K) rfl hr.units0) (pv 7) (pe_ix (ix_tupK (K := K) rfl) (pv 5) (pe_un un_neg pe_int) (fun _ _ => rfl)) (nomark _))))))) (fun _ _ _ _ _ => (pe_op (op_catAK (K := K) rfl) (pv 5) (pe_tup (pa_cons (pv 7) pa_nil))))) pa_nil)))))
  (pss_one (ps_set (i := 3) nd rfl (.inl rfl) (pv 6)))))))
  (pss_one (ps_ret (pe_op op_add (pv 2) pe_int))))), ?_⟩
  · rintro vs H Q E ⟨m, rows, n, T, kd, most, rfl, _⟩
    rfl
  · obtain ⟨m, rows, n, T, kd, most, rfl, M, hn, hm, q⟩ := h
    have hl : (rows.map V.ref).length = n := by rw [List.length_map, M.len]
    have bound : ∀ i, i ≤ 4 → (n * n) ^ i ≤ 2000000 := fun i hi => by
      have h1 : n * n ≤ 36 := Nat.mul_le_mul hn hn
      have h2 : (n * n) ^ i ≤ 36 ^ i := Nat.pow_le_pow_left h1 i
      have h3 : 36 ^ i ≤ 36 ^ 4 := Nat.pow_le_pow_right (by omega) hi
      omega
    refine ⟨Nat.zero_le _, fun t0 h0 => ⟨by show 1 ≤ sizeLine; decide, fun p0 hp0 => ?_⟩⟩
    have s0 := sNew (same_laid (o := .tup []) h0) (o := .lst [.ref t0]) hp0
    refine ⟨_, rfl, _, _, rfl, rfl, _, rfl, by omega, by omega, ?_⟩
    refine for_range (lo := 0) (n := ((most : Int) + 1).toNat) (fun i σ H1 => ∃ p us v4 v5 v6, σ = [some (.ref m), some (.str (kdS kd)), some (.int (most : Int)), some (.ref p), v4, v5, v6, none] ∧ Same H H1 ∧ H1 p = some (.lst us) ∧ Paired (Ps H1) us (incL n i) ∧ us.length ≤ (n * n) ^ i ∧ ∀ r', r' < i → ¬ Free n kd T r' [])
      ⟨p0, [.ref t0], none, none, none, rfl, s0, upd_same, .cons ⟨t0, [], rfl, same_laid hp0 _ _ upd_same, .nil⟩ .nil, by simp, fun r' h => absurd h (Nat.not_lt_zero r')⟩ ?_ ?_
    · rintro i σ H1 hi ⟨p, us, v4, v5, v6, rfl, s1, hp, pr, hlu, nof⟩
      have hi : i ≤ most := by omega
      have hbi := bound i (by omega)
      rw [Int.zero_add]
      -- for pairs in sets
      refine ⟨_, rfl, p, rfl, ⟨_, SqL.of hp⟩, for_list (K := K) (a := p) (xs := us) (fun j σ H2 => ∃ v5, σ = [some (.ref m), some (.str (kdS kd)), some (.int (most : Int)), some (.ref p), some (.int (i : Int)), v5, v6, none] ∧ Same H1 H2 ∧ ∀ s ∈ (incL n i).take j, Has n kd (flipL T s))
        ⟨v5, rfl, Same.refl _, fun s h => by simp at h⟩ (fun j σ H2 _ ⟨_, _, s, _⟩ => SqL.of (s _ _ hp)) ?_ ?_⟩
      · rintro j x σ H2 hx ⟨v5, rfl, s2, has⟩
        obtain ⟨sq, hsq, hT⟩ := pAtL (pMono persPs (sKt s2) pr) hx
        have hsm := List.mem_of_getElem? hsq
        obtain ⟨l1, l2, l3⟩ := mem_incL.mp hsm
        have hN : NormS n sq := ⟨l2.imp fun {a b} h e => by
          subst e
          unfold ltP at h
          omega, fun q hq => mem_allPairs.mp (l3 q hq)⟩
        have s12 := s1.trans s2
        refine ⟨_, rfl, _, rfl, m, rows, n, T, _, sq, rfl, M.same s12, by omega, hT, hN, fun m2 rows2 H3 s3 M3 => ?_⟩
        refine ⟨_, rfl, m2, rows2, n, flipL T sq, kd, rfl, M3, by omega, fun hh H4 s4 => ⟨_, rfl, iteF ?_⟩, fun nh H4 s4 => ⟨_, rfl, iteT ?_⟩⟩
        · refine ⟨_, rfl, s2.trans (s3.trans s4), fun s hs => ?_⟩
          rw [List.take_add_one, hsq] at hs
          rcases List.mem_append.mp hs with h | h
          · exact has s h
          · have e : s = sq := by simpa using h
            rw [e]
            exact hh
        · exact ⟨_, rfl, q i (.inl ⟨hi, free_inc.mpr ⟨i, sq, Nat.le_refl _, hsm, nh⟩, nof⟩) H4 (s12.trans (s3.trans s4))⟩
      · rintro σ H2 ⟨v5, rfl, s2, has⟩
        rw [pr.length, List.take_length] at has
        have nofi : ¬ Free n kd T i [] := fun h => by
          obtain ⟨r, s, hr, hs, no⟩ := free_inc.mp h
          by_cases e : r = i
          · subst e
            exact no (has s hs)
          · exact nof r (by omega) (free_inc.mpr ⟨r, s, Nat.le_refl _, hs, no⟩)
        refine ⟨Nat.zero_le _, fun pl hpl => ?_⟩
        have x2 := sNew s2 (o := .lst []) hpl
        have y2 := same_laid (o := .lst []) hpl
        refine ⟨_, rfl, p, rfl, ⟨_, SqL.of (x2 _ _ hp)⟩, for_list (K := K) (a := p) (xs := us) (fun j σ H3 => ∃ v5, σ = [some (.ref m), some (.str (kdS kd)), some (.int (most : Int)), some (.ref p), some (.int (i : Int)), v5, some (.ref pl), none] ∧ Same H2 H3 ∧ ∃ ws, H3 pl = some (.lst ws) ∧ Paired (Ps H3) ws (grow n ((incL n i).take j)) ∧ ws.length ≤ j * (n * n))
          ⟨v5, rfl, y2, [], upd_same, .nil, by simp⟩ (fun j σ H3 _ ⟨_, _, s, _⟩ => SqL.of ((s2.trans s) _ _ hp)) ?_ ?_⟩
        · rintro j x σ H3 hx ⟨v5, rfl, s3, ws, hw, prw, hlw⟩
          have s13 := s2.trans s3
          obtain ⟨sq, hsq, hT⟩ := pAtL (pMono persPs (sKt s13) pr) hx
          have hsm := List.mem_of_getElem? hsq
          obtain ⟨l1, l2, l3⟩ := mem_incL.mp hsm
          have hj : j < us.length := (List.getElem?_eq_some_iff.mp hx).1
          obtain ⟨ts, svs, rfl, hts, hsp⟩ := id hT
          refine ⟨_, rfl, .inl ⟨rfl, _, SqL.of hw⟩, _, rfl, _, _, rfl, .inl ⟨_, SqL.of ((s1.trans s13) _ _ M.top), rfl⟩, n, by rw [hl]; rfl, by omega, fun pa ua H4 s4 na hpa pra => ?_⟩
          refine ⟨pa, rfl, ⟨_, SqL.of hpa⟩, fun D hD => ?_⟩
          have la := pra.length
          have lal := allPairs_len n
          have hnn : n * n ≤ 36 := Nat.mul_le_mul hn hn
          refine comp_list (K := K) persPr (fun pp => if after sq pp = true then some (sq ++ [pp]) else none) persPs hD (SqL.of hpa) (sizeBig (by omega)) pra ?_ ?_
          · rintro pp x H5 Yes No hpp ⟨tp, rfl, htp⟩ s5 yes no
            have hts5 := (s4.trans s5) _ _ hts
            have hsp5 := pMono persPr (sKt (s4.trans s5)) hsp
            have fin : after sq pp = true → (tOp (rCatA K) (tVar 5) (tTup (tCons (tVar 7) tNil))) [some (.ref m), some (.str (kdS kd)), some (.int (most : Int)), some (.ref p), some (.int (i : Int)), some (.ref ts), some (.ref pl), some (.ref tp)] H5 Yes := fun h => by
              refine ⟨_, rfl, _, rfl, by show 1 ≤ sizeLine; decide, fun t6 h6 => ?_⟩
              have x6 := same_laid (o := .tup [.ref tp]) h6
              have hs6 : Ps (upd H5 t6 (.tup [.ref tp])) (.ref ts) sq := ⟨ts, svs, rfl, x6 _ _ hts5, pMono persPr (sKt x6) hsp5⟩
              have ho6 : Ps (upd H5 t6 (.tup [.ref tp])) (.ref t6) [pp] := ⟨t6, _, rfl, upd_same, .cons ⟨tp, rfl, x6 _ _ htp⟩ .nil⟩
              exact catP persPr hs6 ho6 (by simp; omega) (by simp) fun v H7 s7 h7 => yes _ (if_pos h) _ _ (x6.trans s7) h7
            refine ⟨rfl, _, rfl, _, .inr (.inl ⟨_, SqT.of hts5, rfl⟩), ?_⟩
            cases el : sq.getLast? with
            | none =>
              have en : sq = [] := List.getLast?_eq_none_iff.mp el
              have es : svs = [] := by
                have := hsp.length
                rw [en] at this
                exact List.length_eq_zero_iff.mp this
              rw [es]
              exact fin (by unfold after; rw [el])
            | some ql =>
              have hne : svs ≠ [] := fun e => by
                have := hsp.length
                rw [e] at this
                have e2 := List.length_eq_zero_iff.mp this.symm
                rw [e2] at el
                cases el
              have ei : svs.isEmpty = false := by cases svs with
                | nil => exact absurd rfl hne
                | cons _ _ => rfl
              have esl : ∃ x, svs.getLast? = some x ∧ Pr H5 x ql := by
                obtain ⟨l', rfl⟩ := List.getLast?_eq_some_iff.mp el
                have hk : (l' ++ [ql])[l'.length]? = some ql := by simp
                obtain ⟨x, hx1, hx2⟩ := pAt hsp5 hk
                have hlen := hsp5.length
                rw [List.length_append] at hlen
                refine ⟨x, ?_, hx2⟩
                rw [List.getLast?_eq_getElem?, hlen]
                exact hx1
              obtain ⟨x, hx1, tq, rfl, htq⟩ := esl
              rw [ei]
              refine ⟨_, rfl, _, rfl, _, rfl, _, _, _, _, rfl, rfl, SqT.of hts5, atI_last hx1, tp, tq, _, _, _, _, rfl, rfl, SqT.of htp, SqT.of htq, _, rfl, ?_⟩
              have ea : after sq pp = decide ((ql.1 : Int) < pp.1 ∨ (ql.1 : Int) = pp.1 ∧ (ql.2 : Int) < pp.2) := by
                unfold after
                rw [el]
                refine decide_eq_decide.mpr ?_
                unfold ltP
                omega
              refine ifB (fun c => ?_) (fun c => ?_)
              · exact fin (by rw [ea]; exact c)
              · exact no (if_neg (by rw [ea]; exact fun h => by rw [h] at c; cases c)) _ (Same.refl _)
          · intro H5 ys s5 hy pr5
            rw [fm_if (after sq) (fun pp => sq ++ [pp])] at pr5
            have s35 := s4.trans s5
            have hw5 := s35 _ _ hw
            have l5 := pr5.length
            have l6 := List.length_filter_le (after sq) (allPairs n)
            rw [List.length_map] at l5
            have l7 : j * (n * n) ≤ 2000000 * 1 := by
              have h8 : j * (n * n) ≤ us.length * (n * n) := Nat.mul_le_mul (by omega) (Nat.le_refl _)
              have h9 : us.length * (n * n) ≤ (n * n) ^ i * (n * n) := Nat.mul_le_mul hlu (Nat.le_refl _)
              have h10 := bound (i + 1) (by omega)
              rw [Nat.pow_succ] at h10
              omega
            refine ⟨pl, _, _, _, rfl, rfl, hw5, hy, Nat.le_of_lt (sizeBig (by omega)), ?_⟩
            have kt : KeepT H5 (upd H5 pl (.lst (ws ++ ys))) := KeepT.lst hw5
            have npl : H2 pl = none := hpl
            refine ⟨_, rfl, sPut (s3.trans s35) npl, _, upd_same, ?_, ?_⟩
            · rw [List.take_add_one, hsq]
              unfold grow at prw ⊢
              rw [List.flatMap_append]
              refine pApp (pMono persPs ((sKt s35).trans kt) prw) ?_
              simpa using pMono persPs kt pr5
            · rw [List.length_append, Nat.succ_mul]
              omega
        · rintro σ H3 ⟨v5, rfl, s3, ws, hw, prw, hlw⟩
          rw [pr.length, List.take_length] at prw
          refine ⟨_, rfl, pl, ws, _, _, _, rfl, s1.trans (s2.trans s3), hw, prw, ?_, fun r' hr' => ?_⟩
          · rw [Nat.pow_succ]
            exact Nat.le_trans hlw (Nat.mul_le_mul hlu (Nat.le_refl _))
          · by_cases e : r' = i
            · subst e
              exact nofi
            · exact nof r' (by omega)
    · rintro σ H1 ⟨p, us, v4, v5, v6, rfl, s1, hp, pr, hlu, nof⟩
      have := q (most + 1) (.inr ⟨rfl, fun r' h => nof r' (by omega)⟩) H1 s1
      exact ⟨_, rfl, _, _, rfl, rfl, this⟩
end
end Ns

/-! Own layer: the law of the nearest, walked. -/
namespace Ns
open PySem PySem.Spec PyProof.Rows L2
local macro_rules | `(tactic| walk_at "look") => `(tactic| first | assumption | exact upd_same | (refine (upd_ne (by first | assumption | exact Ne.symm (by assumption))).trans ?_; walk_at "look"))
local macro_rules | `(tactic| walk_at "cond") => `(tactic| first | assumption | omega | (dsimp only; omega) | exact ⟨by omega, by omega⟩ | decide | exact ⟨by decide, by decide, by decide⟩ | exact .inr ⟨by decide, by decide⟩ | exact .inl ⟨by decide, by decide⟩ | exact .inr ⟨by omega, by omega⟩ | exact .inl ⟨by omega, by omega⟩)
local macro_rules | `(tactic| walk_at "rd1") => `(tactic| first
  | refine ⟨_, rfl, ?_⟩
  | refine ⟨_, _, rfl, rfl, ?_⟩
  | refine ⟨rfl, ?_⟩
  | refine ⟨_, _, rfl, rfl, (by walk_at "cond"), ?_⟩
  | refine ⟨_, _, _, _, rfl, rfl, SqL.of (by walk_at "look"), rfl, ?_⟩
  | refine ⟨_, _, _, _, rfl, rfl, SqT.of (by walk_at "look"), rfl, ?_⟩
  | refine ⟨_, _, _, _, rfl, rfl, (by walk_at "look"), rfl, ?_⟩
  | refine .inl ⟨_, rfl, ?_⟩
  | refine ⟨.inl ⟨rfl, _, SqL.of (by walk_at "look")⟩, ?_⟩
  | refine ⟨_, _, rfl, ⟨by omega, by omega, by omega, by omega⟩, ?_⟩
  | refine ⟨_, rfl, (by omega), (by omega), ?_⟩
  | refine And.intro (by walk_at "cond") ?_)
local macro_rules | `(tactic| walk_at "rd") => `(tactic| repeat (walk_at "rd1"))

abbrev s_law_points : Stmt := top 30
abbrev N_law_points : List Str := ["x", "n", "k", "one"]
theorem sc_law_points : FnScope N_law_points ["x", "n"] (defScope s_law_points) := ⟨rfl, rfl, rfl, by decide +kernel, rfl, by decide +kernel, by decide +kernel⟩
abbrev s_law_pairs_right : Stmt := top 36
abbrev N_law_pairs_right : List Str := ["net", "pairs", "k", "pair"]
theorem sc_law_pairs_right : FnScope N_law_pairs_right ["net", "pairs"] (defScope s_law_pairs_right) := ⟨rfl, rfl, rfl, by decide +kernel, rfl, by decide +kernel, by decide +kernel⟩
abbrev s_law : Stmt := top 37
abbrev N_law : List Str := ["script", "box", "n", "there", "net", "kind", "most", "least", "pairs", "pair"]
theorem sc_law : FnScope N_law ["script"] (defScope s_law) := ⟨rfl, rfl, rfl, by decide +kernel, rfl, by decide +kernel, by decide +kernel⟩
theorem hu100 {A : Around} {k : Nat} (hr : Room k A) : A.units + 100 < cLine := by
  have := hr.un
  omega
section
variable {P : Program} {w : World} {K : PySem.W.Frag} {mg : Str → Option Value} {base : Heap}
def sp_points : Sp := fun vs H Q _ => ∃ (v : V) (p : Nat × Nat) (n : Nat), vs = [v, pI n] ∧ Pr H v p ∧ p.1 < p.2 ∧ p.2 < n ∧ ∀ H', Same H H' → Q (.bl true) H'
theorem cal_points (A : At K mg "_law_points" s_law_points) (B : Bi mg) : Cal P w K mg base 1 "_law_points" sp_points := by
  have nd := sc_law_points.nd
  refine A.cal sc_law_points (fun _ _ _ _ _ _ us hl => match us, hl with | [_, _], _ => rfl) ?_ fun f cdv A' outer s H vs Q E hr h => ⟨_, (pss_cons (ps_if (pt_not (pt_val (pe_callB (call_isiK' (K := K) rfl) (by rfl) B.isinstance (by decide +kernel) (pa_cons (pv 0) (pa_cons (pe_bltn (v := .ty "tuple") (u := .type "tuple") (by rfl) B.tuple (by decide +kernel) rfl) pa_nil))))) (pss_one (ps_ret pe_bl)) pss_nil)
  (pss_cons (ps_for passOwn rfl (pi_enumTK (K := K) rfl (by rfl) B.enumerate (pa_cons (pv 0) pa_nil)) (pg_tupK (K := K) (n := 2) rfl rfl (pgs_cons (pg_name (i := 2) nd rfl (.inl rfl)) (pgs_cons (pg_name (i := 3) nd rfl (.inl rfl)) pgs_nil))) (pss_one (ps_if (PW.pt (pw_or (pt_not (pt_val (pe_callB (call_isiK' (K := K) rfl) (by rfl) B.isinstance (by decide +kernel) (pa_cons (pv 3) (pa_cons (pe_bltn (v := .ty "int") (u := .type "int") (by rfl) B.int_ (by decide +kernel) rfl) pa_nil))))) (pw_or (pt_val (pe_callB (call_isiK' (K := K) rfl) (by rfl) B.isinstance (by decide +kernel) (pa_cons (pv 3) (pa_cons (pe_bltn (v := .ty "bool") (u := .type "bool") (by rfl) B.bool (by decide +kernel) rfl) pa_nil)))) (pw_or (pt_not (pt_chain op_le op_lt pe_int (pv 3) (pv 1))) (pw_or1 (pt_cmpR (op_in_seqK (K := K) rfl) (pv 3) (pe_slice (sl_tupAK (K := K) rfl) (pv 0) po_none (po_some (pv 2))) rfl)))))) (pss_one (ps_ret pe_bl)) pss_nil)))
  (pss_one (ps_ret pe_bl)))), ?_⟩
  · rintro vs H Q E ⟨v, p, n, rfl, _⟩
    rfl
  · obtain ⟨v, p, n, rfl, hp, h1, h2, q⟩ := h
    have hd : Dp K H v (pairD p) := dp_pair hp
    obtain ⟨t, rfl, ht⟩ := hp
    refine ⟨_, rfl, _, .ty "tuple", .type (tyName _), .type "tuple", _, rfl, .ty _, tyX_of hd, kit_ty (kit_isi _ "tuple" (by simp)), ?_⟩
    rw [isi_tuple]
    refine ⟨_, rfl, ifB (fun c => by cases c) (fun _ => ?_)⟩
    refine ⟨_, rfl, t, _, rfl, SqT.of ht, ?_⟩
    refine for_it (walk_enumT (K := K) (a := t) (xs := [pI p.1, pI p.2])) (fun i σ H1 => ∃ v2 v3, σ = [some (.ref t), some (pI n), v2, v3] ∧ Same H H1) ⟨none, none, rfl, Same.refl H⟩ (fun i σ H1 _ ⟨_, _, _, s1⟩ => SqT.of (s1 _ _ ht)) ?_ ?_
    · rintro i x σ H1 H2 hi ⟨v2, v3, rfl, s1⟩ ⟨tt, e1, e2, rfl, nt, rfl, h3, h4⟩
      have e3 : V.int (i : Nat) = e1 := Option.some.inj h3
      subst e3
      have hi : i < 2 := hi
      obtain ⟨z, hz, ez, hcut⟩ : ∃ z : Nat, z < n ∧ e2 = pI z ∧ inV (pI z) (([pI p.1, pI p.2] : List V).take i) = false := by
        have h4 : ([pI p.1, pI p.2] : List V)[i]? = some e2 := h4
        match i, hi with
        | 0, _ => exact ⟨p.1, by omega, (Option.some.inj h4).symm, rfl⟩
        | 1, _ =>
          refine ⟨p.2, h2, (Option.some.inj h4).symm, ?_⟩
          show (((p.1 : Int) == (p.2 : Int)) || false) = false
          rw [Bool.or_false, beq_eq_false_iff_ne]
          omega
      subst ez
      have s2 := sNew s1 (o := .tup [.int (i : Nat), pI z]) nt
      have ht2 := s2 _ _ ht
      have dz : Dp K (upd H1 tt (.tup [.int (i : Nat), pI z])) (pI z) (.int z) := .int z
      refine ⟨tt, _, rfl, SqT.of upd_same, rfl, _, _, rfl, _, _, rfl, rfl, ?_⟩
      refine ⟨_, rfl, _, .ty "int", .type (tyName _), .type "int", _, rfl, .ty _, tyX_of dz, kit_ty (kit_isi _ "int" (by simp)), ?_⟩
      rw [isi_int]
      refine ⟨_, rfl, ifB (fun c => by cases c) (fun _ => ?_)⟩
      refine ⟨_, rfl, _, .ty "bool", .type (tyName _), .type "bool", _, rfl, .ty _, tyX_of dz, kit_ty (kit_isi _ "bool" (by simp)), ?_⟩
      rw [isi_bool]
      refine ⟨_, rfl, ifB (fun c => by cases c) (fun _ => ?_)⟩
      refine ⟨_, rfl, _, _, rfl, rfl, _, rfl, ifD (fun _ => ?_) (fun c => absurd (by omega) c)⟩
      refine ⟨_, rfl, _, _, rfl, rfl, _, rfl, ifN (fun c => absurd (of_decide_eq_false c) (by omega)) (fun _ => ?_)⟩
      refine ⟨_, rfl, _, rfl, _, rfl, _, rfl, t, _, rfl, SqT.of ht2, fun h => ?_, fun _ p5 h5 => ?_⟩
      · exfalso
        have e := h.2
        rw [HT.sIx_nat] at e
        simp at e
        omega
      · rw [cutV_take]
        have s5 := sNew s2 (o := .tup (([pI p.1, pI p.2] : List V).take i)) h5
        refine ⟨p5, _, rfl, .inr (SqT.of upd_same), rfl, ?_, _, rfl, ?_⟩
        · match i, hi with
          | 0, _ => rfl
          | 1, _ => rfl
        refine ifB (fun c => ?_) (fun _ => ⟨_, _, rfl, s5⟩)
        have c : inV (pI z) (([pI p.1, pI p.2] : List V).take i) = true := c
        rw [hcut] at c
        cases c
    · rintro σ H1 ⟨v2, v3, rfl, s1⟩
      exact q H1 s1
/-! ### the told pairs are right -/
def sp_pairs_right : Sp := fun vs H Q _ => ∃ (v u : V) (n : Nat) (ties S : List (Nat × Nat)), vs = [v, u] ∧ Net H v n ties ∧ Tup Pr H u S ∧ NormS n S ∧ S.Pairwise ltP ∧ ∀ H', Same H H' → Q (.bl true) H'
theorem cal_pairs_right (A : At K mg "_law_pairs_right" s_law_pairs_right) (B : Bi mg) (c_law_points : Cal P w K mg base 1 "_law_points" sp_points) : Cal P w K mg base 2 "_law_pairs_right" sp_pairs_right := by
  have nd := sc_law_pairs_right.nd
  refine A.cal sc_law_pairs_right (fun _ _ _ _ _ _ us hl => match us, hl with | [_, _], _ => rfl) ?_ fun f cdv A' outer s H vs Q E hr h => ⟨_, (pss_cons (ps_if (pt_not (pt_val (pe_callB (call_isiK' (K := K) rfl) (by rfl) B.isinstance (by decide +kernel) (pa_cons (pv 1) (pa_cons (pe_bltn (v := .ty "tuple") (u := .type "tuple") (by rfl) B.tuple (by decide +kernel) rfl) pa_nil))))) (pss_one (ps_ret pe_bl)) pss_nil)
  (pss_cons (ps_for passOwn rfl (pi_enumTK (K := K) rfl (by rfl) B.enumerate (pa_cons (pv 1) pa_nil)) (pg_tupK (K := K) (n := 2) rfl rfl (pgs_cons (pg_name (i := 2) nd rfl (.inl rfl)) (pgs_cons (pg_name (i := 3) nd rfl (.inl rfl)) pgs_nil))) (pss_one (ps_if (PW.pt (pw_or (pt_not (pt_val (pe_cal c_law_points hr (by first | decide | omega) (by rfl) passE (pa_cons (pv 3) (pa_cons (pe_ix (ix_tupK (K := K) rfl) (pv 0) pe_int (fun _ _ => rfl)) pa_nil))))) (pw_or (pt_cmpR op_ne (pe_callB (call_lenK (K := K) rfl) (by rfl) B.len (by decide +kernel) (pa_cons (pv 3) pa_nil)) pe_int (nomark _)) (pw_or (pt_cmpR op_ge (pe_ix (ix_tupK (K := K) rfl) (pv 3) pe_int (fun _ _ => rfl)) (pe_ix (ix_tupK (K := K) rfl) (pv 3) pe_int (fun _ _ => rfl)) (nomark _)) (pw_or1 (PW.pt (pw_and (pt_cmpR op_gt (pv 2) pe_int (nomark _)) (pw_and1 (pt_not (pt_cmpR (op_ltTK (K := K) rfl hr.units0) (pe_ix (ix_tupK (K := K) rfl) (pv 1) (pe_op op_sub (pv 2) pe_int) (fun _ _ => rfl)) (pv 3) (nomark _))))))))))) (pss_one (ps_ret pe_bl)) pss_nil)))
  (pss_one (ps_ret pe_bl)))), ?_⟩
  · rintro vs H Q E ⟨v, u, n, ties, S, rfl, _⟩
    rfl
  · obtain ⟨v, u, n, ties, S, rfl, hN, hT, hS, hSo, q⟩ := h
    obtain ⟨tn, un, rfl, hn, _⟩ := hN
    obtain ⟨t, us, rfl, ht, pr⟩ := hT
    have hd : Dp K H (.ref t) (.tuple (S.map pairD)) := .tup (SqT.of ht) (dps_pairs pr)
    refine ⟨_, rfl, _, .ty "tuple", .type (tyName _), .type "tuple", _, rfl, .ty _, tyX_of hd, kit_ty (kit_isi _ "tuple" (by simp)), ?_⟩
    rw [isi_tuple]
    refine ⟨_, rfl, ifB (fun c => by cases c) (fun _ => ?_)⟩
    refine ⟨_, rfl, t, _, rfl, SqT.of ht, ?_⟩
    refine for_it (walk_enumT (K := K) (a := t) (xs := us)) (fun i σ H1 => ∃ v2 v3, σ = [some (.ref tn), some (.ref t), v2, v3] ∧ Same H H1) ⟨none, none, rfl, Same.refl H⟩ (fun i σ H1 _ ⟨_, _, _, s1⟩ => SqT.of (s1 _ _ ht)) ?_ ?_
    · rintro i x σ H1 H2 hi ⟨v2, v3, rfl, s1⟩ ⟨tt, e1, e2, rfl, nt, rfl, h3, h4⟩
      have e3 : V.int (i : Nat) = e1 := Option.some.inj h3
      subst e3
      have h4 : us[i]? = some e2 := h4
      obtain ⟨p, hp, tp, rfl, htp⟩ := pAtL pr h4
      have hb := hS.2 p (List.mem_of_getElem? hp)
      have s2 := sNew s1 (o := .tup [.int (i : Nat), .ref tp]) nt
      have htp2 := s2 _ _ htp
      refine ⟨tt, _, rfl, SqT.of upd_same, rfl, _, _, rfl, _, _, rfl, rfl, ?_⟩
      refine ⟨_, rfl, _, rfl, _, _, _, _, rfl, rfl, SqT.of (s2 _ _ hn), rfl, _, p, n, rfl, ⟨tp, rfl, htp2⟩, hb.1, hb.2, fun H3 s3 => ⟨_, rfl, ?_⟩⟩
      have htp3 := s3 _ _ htp2
      refine ifB (fun c => by cases c) (fun _ => ?_)
      refine ⟨_, rfl, _, _, rfl, .inr ⟨_, SqT.of htp3, rfl⟩, rfl, _, rfl, ifNI (fun c => absurd rfl c) (fun _ => ?_)⟩
      refine ⟨_, rfl, _, _, _, _, rfl, rfl, SqT.of htp3, rfl, _, rfl, _, _, _, _, rfl, rfl, SqT.of htp3, rfl, _, _, rfl, rfl, _, rfl, ifD (fun c => absurd c (by omega)) (fun _ => ?_)⟩
      refine ⟨_, rfl, _, _, rfl, rfl, _, rfl, ifD (fun c => ?_) (fun c => ?_)⟩
      · obtain ⟨j, rfl⟩ : ∃ j, i = j + 1 := ⟨i - 1, by omega⟩
        have hS1 := (List.getElem?_eq_some_iff.mp hp).1
        have hpj : S[j]? = some S[j] := by simp
        obtain ⟨xj, hxj, tj, rfl, htj⟩ := pAt pr hpj
        have s23 := s2.trans s3
        have elt : ltP S[j] p := by
          have h5 := List.pairwise_iff_getElem.mp hSo j (j + 1) (by omega) hS1 (by omega)
          have h6 := (List.getElem?_eq_some_iff.mp hp).2
          rw [h6] at h5
          exact h5
        refine ⟨_, rfl, _, rfl, _, _, rfl, rfl, _, _, _, _, rfl, rfl, SqT.of (s23 _ _ ht), ?_, _, rfl, tj, tp, [(S[j].1 : Int), (S[j].2 : Int)], [(p.1 : Int), (p.2 : Int)], rfl, rfl, SqT.of (s23 _ _ htj), SqT.of htp3, _, rfl, ?_⟩
        · have e : ((j + 1 : Nat) : Int) - 1 = (j : Int) := by omega
          show atI us (((j + 1 : Nat) : Int) - 1) = _
          rw [e]
          exact atI_nat hxj
        rw [lexLt2, decide_eq_true (by unfold ltP at elt; omega)]
        exact ⟨_, _, rfl, s23⟩
      · exact ⟨_, _, rfl, s2.trans s3⟩
    · rintro σ H1 ⟨v2, v3, rfl, s1⟩
      exact q H1 s1
/-! ### the law -/
/-- one of two numbers by a test -/
theorem if2 {σ : L2.St} {H : Hp} {Q : VK} {c : TT} {i j : Int} (hc : ∀ R : Bool → Hp → Prop, (∀ k, R k H) → c σ H R) (h : ∀ m : Int, m = i ∨ m = j → Q (.int m) H) : tIf c (tC (.int i)) (tC (.int j)) σ H Q :=
  hc _ fun k => match k with
    | true => iteT (h i (.inl rfl))
    | false => iteF (h j (.inr rfl))
/-- a key beside True -/
def Kv (H : Hp) (v : V) (p : Nat × Nat) : Prop := ∃ t u, v = .ref t ∧ H t = some (.tup [.ref u, .bl true]) ∧ H u = some (.tup [pI p.1, pI p.2])
theorem persKv : PersT Kv := fun _ _ _ _ k ⟨t, u, e, h, g⟩ => ⟨t, u, e, k _ _ h, k _ _ g⟩
theorem kv_pairs {H : Hp} : ∀ {vs : List V} {xs : List (Nat × Nat)}, Paired (Kv H) vs xs → ∃ ps : List Addr, vs = ps.map V.ref ∧ PairsT H ps (xs.map fun x => (key x, V.bl true))
  | _, _, .nil => ⟨[], rfl, .nil⟩
  | _, _, .cons ⟨t, u, e, h, g⟩ r => by
    obtain ⟨ps, e2, pt⟩ := kv_pairs r
    subst e
    subst e2
    exact ⟨t :: ps, rfl, .cons ⟨u, h, g⟩ pt⟩
theorem dec_no {n : Nat} {kd : Kd} {T : Tm} {m : Nat} {S : List (Nat × Nat)} (hS : NormS n S) (hl : S.length ≤ m) (h : ¬ Has n kd (flipL T S)) : Free n kd T m [] := ⟨S, hS, hl, fun _ _ => List.not_mem_nil, h⟩
def sp_law (K : PySem.W.Frag) : Sp := fun vs H Q _ => ∃ (a : Addr) (ns : List Int), vs = [.ref a] ∧ SqL K H a (ns.map V.int) ∧ ns.length ≤ 63 ∧ ∀ H', Q (.bl true) H'
theorem ok_law {f : Addr} {fd : FuncData} (F : FnP K "law" s_law f fd) (B : Bi mg) (c_law_box : Cal P w K mg base 1 "_law_box" (sp_box K)) (c_law_take : Cal P w K mg base 1 "_law_take" sp_take) (c_law_pick : Cal P w K mg base 2 "_law_pick" (sp_pick K)) (c_law_pairs : Cal P w K mg base 1 "_law_pairs" sp_pairs) (c_law_made : Cal P w K mg base 2 "_law_made" sp_made)
    (c_law_table : Cal P w K mg base 1 "_law_table" sp_matrix) (c_law_least : Cal P w K mg base 3 "_law_least" sp_least) (c_nearest : Cal P w K mg base 9 "nearest" sp_nearest) (c_law_pairs_right : Cal P w K mg base 2 "_law_pairs_right" sp_pairs_right) (c_law_flip : Cal P w K mg base 1 "_law_flip" sp_flip)
    (c_law_has_place : Cal P w K mg base 2 "_law_has_place" sp_has_place) : FnOk P w K mg base (L2.CX P w) 10 f fd ["script"] (sp_law K) := by
  have nd := sc_law.nd
  refine F.ok sc_law ?_ fun cdv A' outer s H vs Q E hr h => ⟨_, (pss_cons (ps_set (i := 1) nd rfl (.inr rfl) (pe_cal c_law_box hr (by first | decide | omega) (by rfl) passE (pa_cons (pv 0) pa_nil)))
  (pss_cons (ps_set (i := 2) nd rfl (.inl rfl) (pe_cal c_law_pick hr (by first | decide | omega) (by rfl) passE (pa_cons (pv 1) (pa_cons (pe_lst (pa_cons pe_int (pa_cons pe_int (pa_cons pe_int (pa_cons pe_int (pa_cons pe_int (pa_cons pe_int (pa_cons pe_int (pa_cons pe_int pa_nil))))))))) pa_nil))))
  (pss_cons (ps_set (i := 3) nd rfl (.inl rfl) (pe_callTy (call_dictT (K := K) rfl rfl (hu100 hr)) (by rfl) B.dict_ (by decide +kernel) (pa_cons (pe_lc (own := [("pair", 9)]) rfl nd (pi_listK (K := K) rfl (pe_cal c_law_pairs hr (by first | decide | omega) (by rfl) passE (pa_cons (pv 2) pa_nil))) (blkOk_by (own := [("pair", 9)]) (N := N_law) (sc := defScope s_law) (by decide +kernel)) (fun _ _ _ _ _ => (pg_name (i := 9) nd rfl (.inl rfl) (.inr rfl))) (fun _ _ _ _ _ => (pts_one (pt_cmpR op_eq (pe_cal c_law_take hr (by first | decide | omega) (by rfl) passL (pa_cons (pv 1) (pa_cons pe_int pa_nil))) pe_int (nomark _)))) (fun _ _ _ _ _ => (pe_tup (pa_cons (pv 9) (pa_cons pe_bl pa_nil))))) pa_nil)))
  (pss_cons (ps_set (i := 4) nd rfl (.inl rfl) (pe_cal c_law_made hr (by first | decide | omega) (by rfl) passE (pa_cons (pv 2) (pa_cons (pv 3) pa_nil))))
  (pss_cons (ps_set (i := 5) nd rfl (.inl rfl) (pe_cal c_law_pick hr (by first | decide | omega) (by rfl) passE (pa_cons (pv 1) (pa_cons (pe_lst (pa_cons pe_str (pa_cons pe_str (pa_cons pe_str (pa_cons pe_str pa_nil))))) pa_nil))))
  (pss_cons (ps_set (i := 6) nd rfl (.inl rfl) (pe_cal c_law_take hr (by first | decide | omega) (by rfl) passE (pa_cons (pv 1) (pa_cons (pe_ifExp (pt_cmpR op_eq (pv 2) pe_int (nomark _)) pe_int pe_int) pa_nil))))
  (pss_cons (ps_set (i := 7) nd rfl (.inl rfl) (pe_cal c_law_least hr (by first | decide | omega) (by rfl) passE (pa_cons (pe_cal c_law_table hr (by first | decide | omega) (by rfl) passE (pa_cons (pv 4) pa_nil)) (pa_cons (pv 5) (pa_cons (pv 6) pa_nil)))))
  (pss_cons (ps_set (i := 8) nd rfl (.inl rfl) (pe_cal c_nearest hr (by first | decide | omega) (by rfl) passE (pa_cons (pv 4) (pa_cons (pv 5) (pa_cons (pv 6) pa_nil)))))
  (pss_cons (ps_if (pt_cmpR op_gt (pv 7) (pv 6) (nomark _)) (pss_one (ps_ret (pe_cmpR op_isN (pv 8) pe_non (nomark _)))) pss_nil)
  (pss_cons (ps_if (PW.pt (pw_or (pt_cmpR op_isN (pv 8) pe_non (nomark _)) (pw_or (pt_not (pt_val (pe_cal c_law_pairs_right hr (by first | decide | omega) (by rfl) passE (pa_cons (pv 4) (pa_cons (pv 8) pa_nil))))) (pw_or1 (pt_cmpR op_ne (pe_callB (call_lenK (K := K) rfl) (by rfl) B.len (by decide +kernel) (pa_cons (pv 8) pa_nil)) (pv 7) (nomark _)))))) (pss_one (ps_ret pe_bl)) pss_nil)
  (pss_one (ps_ret (pe_not (pe_cal c_law_has_place hr (by first | decide | omega) (by rfl) passE (pa_cons (pe_cal c_law_flip hr (by first | decide | omega) (by rfl) passE (pa_cons (pe_cal c_law_table hr (by first | decide | omega) (by rfl) passE (pa_cons (pv 4) pa_nil)) (pa_cons (pv 8) pa_nil))) (pa_cons (pv 5) pa_nil)))))))))))))))), ?_⟩
  · rintro vs H Q E ⟨a, ns, rfl, _⟩
    rfl
  · obtain ⟨a, ns, rfl, hS, hn, q⟩ := h
    refine ⟨_, rfl, a, ns, rfl, hS, hn, fun b l H1 s1 hb => ?_⟩
    -- n = pick
    refine ⟨_, rfl, by show 8 ≤ sizeLine; decide, fun pm hpm => ?_⟩
    have kpm := (Kp.refl hb).new (o := .lst [.int 5, .int 4, .int 6, .int 5, .int 3, .int 1, .int 0, .int 2]) hpm
    refine ⟨b, l, pm, _, rfl, kpm.box, .inl ⟨upd_same, box_ne hb hpm⟩, by simp, by simp, fun v H2 hv k2 => ?_⟩
    have kk2 := kpm.trans k2
    obtain ⟨n, rfl, hn6⟩ : ∃ n : Nat, v = pI n ∧ n ≤ 6 := by
      simp only [List.mem_cons, List.not_mem_nil, or_false] at hv
      rcases hv with rfl | rfl | rfl | rfl | rfl | rfl | rfl | rfl
      · exact ⟨5, rfl, by decide⟩
      · exact ⟨4, rfl, by decide⟩
      · exact ⟨6, rfl, by decide⟩
      · exact ⟨5, rfl, by decide⟩
      · exact ⟨3, rfl, by decide⟩
      · exact ⟨1, rfl, by decide⟩
      · exact ⟨0, rfl, by decide⟩
      · exact ⟨2, rfl, by decide⟩
    -- there
    refine ⟨_, rfl, n, rfl, by omega, fun pp us H3 s3 np hp pr => ?_⟩
    have kk3 := kk2.then s3
    refine ⟨pp, rfl, ⟨_, SqL.of hp⟩, fun D hD => ?_⟩
    have hD1 : H1 D = none := kk3.free hb hD
    have hDb := box_ne kk3.box hD
    have hppb := box_ne kk2.box np
    have hnn : n * n ≤ 36 := Nat.mul_le_mul hn6 hn6
    have hap := allPairs_len n
    have lus := pr.length
    have hppD : pp ≠ D := ne_of_none hp hD
    refine lc_list (K := K) (a := pp) (xs := us) (fun i H4 => Kp b l H3 H4 ∧ ∃ acc S, H4 D = some (.lst acc) ∧ Paired (Kv H4) acc S ∧ acc.length ≤ i) ⟨(Kp.refl kk3.box).new hD, [], [], upd_same, .nil, Nat.zero_le _⟩ (fun i H4 _ p => SqL.of (p.1.same _ _ hp hppb)) ?_ ?_
    · rintro i x H4 hx ⟨k4, acc, S, hacc, prS, hla⟩
      have hi := (List.getElem?_eq_some_iff.mp hx).1
      obtain ⟨pq, hpq, t, rfl, ht⟩ := pAtL pr hx
      have ht4 := k4.tup kk3.box ht
      refine ⟨rfl, _, rfl, b, l, _, rfl, k4.box, by decide, by decide, fun r H5 r0 r1 k5 => ⟨rfl, _, rfl, ifI (fun c => ?_) (fun c => ?_)⟩⟩
      · have ht5 := k5.tup k4.box ht4
        refine ⟨_, rfl, by show 2 ≤ sizeLine; decide, fun t6 h6 => ?_⟩
        have s6 := same_laid (o := .tup [.ref t, .bl true]) h6
        have hacc5 := k5.same _ _ hacc hDb
        have hacc6 := s6 _ _ hacc5
        refine ⟨acc, hacc6, sizeBig (by omega), ((k4.trans k5).then s6).put kk3.box hD, acc ++ [.ref t6], S ++ [pq], upd_same, ?_, by rw [List.length_append]; simp; omega⟩
        have kt6 : KeepT H4 (upd (upd H5 t6 (.tup [.ref t, .bl true])) D (.lst (acc ++ [.ref t6]))) := (k5.kt k4.box).trans ((sKt s6).trans (KeepT.lst hacc6))
        refine pApp (pMono persKv kt6 prS) (.cons ⟨t6, t, rfl, ?_, ?_⟩ .nil)
        · rw [upd_ne (fun e => by rw [e, hacc5] at h6; cases h6)]
          exact upd_same
        · exact KeepT.lst hacc6 _ _ (s6 _ _ ht5)
      · refine ⟨k4.trans k5, acc, S, k5.same _ _ hacc hDb, pMono persKv (k5.kt k4.box) prS, by omega⟩
    · rintro H4 ⟨k4, acc, S, hacc, prS, hla⟩
      obtain ⟨ps, rfl, pt⟩ := kv_pairs prS
      refine ⟨D, ps, _, rfl, SqL.of hacc, pt, fun d hd => ?_⟩
      have k5 := (kk3.trans k4).then (same_laid (o := .dT (mergeT [] (S.map fun x => (key x, V.bl true)))) hd)
      -- net
      refine ⟨_, rfl, _, rfl, n, d, _, rfl, by omega, upd_same, fun v H6 s6 hN => ?_⟩
      have k6 := k5.then s6
      have hg := Good.filter (n := n) (either (mergeT [] (S.map fun x => (key x, V.bl true))))
      generalize (allPairs n).filter (either (mergeT [] (S.map fun x => (key x, V.bl true)))) = ties at hN hg
      -- kind
      refine ⟨_, rfl, by show 4 ≤ sizeLine; decide, fun pk hpk => ?_⟩
      have k7 := k6.new (o := .lst [.str (Str.ofString "cograph"), .str (Str.ofString "split"), .str (Str.ofString "threshold"), .str (Str.ofString "nested")]) hpk
      refine ⟨b, l, pk, _, rfl, k7.box, .inl ⟨upd_same, box_ne k6.box hpk⟩, by simp, by simp, fun v2 H8 hv2 k8 => ?_⟩
      obtain ⟨kd, rfl⟩ : ∃ kd : Kd, v2 = .str (kdS kd) := by
        simp only [List.mem_cons, List.not_mem_nil, or_false] at hv2
        rcases hv2 with rfl | rfl | rfl | rfl
        · exact ⟨.cograph, rfl⟩
        · exact ⟨.split, rfl⟩
        · exact ⟨.threshold, rfl⟩
        · exact ⟨.nested, rfl⟩
      have N8 := (hN.keep (sKt (same_laid hpk))).keep (k8.kt k7.box)
      have k8' := k7.trans k8
      have tb : ∀ p ∈ ties, p.1 < n ∧ p.2 < n := fun p hp => ⟨by have := hg.1 p hp; omega, (hg.1 p hp).2⟩
      refine ⟨_, rfl, if2 (fun R hR => ⟨_, rfl, rfl, _, rfl, hR _⟩) (fun m hm => ?_)⟩
      refine ⟨b, l, m, rfl, k8'.box, by omega, by omega, fun r H9 r0 r1 k9 => ?_⟩
      obtain ⟨most, rfl⟩ := Int.eq_ofNat_of_zero_le r0
      have hmost : most ≤ 3 := by omega
      have N9 := N8.keep (k9.kt k8'.box)
      refine ⟨_, rfl, v, n, ties, rfl, N9, by omega, tb, fun mt rows HA sA nm nr M => ?_⟩
      refine ⟨_, rfl, _, rfl, mt, rows, n, tieT ties, kd, most, rfl, M, hn6, hmost, fun r hL HB sB => ?_⟩
      have NB := N9.keep (sKt (sA.trans sB))
      refine ⟨_, rfl, _, rfl, _, rfl, v, n, ties, kd, most, rfl, NB, by omega, hg, by omega, fun v' S HC m' sC hm' hNS hl' no' lt' so hT => ?_, fun nf HC sC => ?_⟩
      · have fS : Free n kd (tieT ties) S.length [] := dec_no hNS (Nat.le_refl _) no'
        obtain ⟨hr1, hr2⟩ : r ≤ most ∧ r = S.length := by
          rcases hL with ⟨h1, h2, h3⟩ | ⟨h1, h2⟩
          · have a1 : ¬ S.length < r := fun h => h3 _ h fS
            have a2 : ¬ r < m' := fun h => lt' r h h2
            omega
          · exact absurd fS (h2 _ (by omega))
        obtain ⟨tS, vS, rfl, htS, prS'⟩ := id hT
        have NC := NB.keep (sKt sC)
        have lS := prS'.length
        refine ⟨_, rfl, _, rfl, _, _, rfl, rfl, _, rfl, ifD (fun c => absurd c (by omega)) (fun _ => ?_)⟩
        refine ⟨_, rfl, rfl, _, rfl, iteF ?_⟩
        refine ⟨_, rfl, _, rfl, v, _, n, ties, S, rfl, NC, hT, hNS, so, fun HD sD => ⟨_, rfl, iteF ?_⟩⟩
        refine ⟨_, rfl, _, _, rfl, .inr ⟨_, SqT.of (sD _ _ htS), rfl⟩, _, rfl, rfl, _, rfl, ifNI (fun c => absurd (by omega) c) (fun _ => ?_)⟩
        have ND := NC.keep (sKt sD)
        refine ⟨_, rfl, v, n, ties, rfl, ND, by omega, tb, fun mt2 rows2 HE sE nm2 nr2 M2 => ?_⟩
        refine ⟨_, rfl, mt2, rows2, n, tieT ties, _, S, rfl, M2, by omega, persTup persPr _ _ _ _ (sKt (sD.trans sE)) hT, hNS, fun m3 rows3 HF sF M3 => ?_⟩
        exact ⟨_, rfl, m3, rows3, n, _, kd, rfl, M3, by omega, fun hh => absurd hh no', fun _ HG sG => ⟨_, rfl, q _⟩⟩
      · have hr : r = most + 1 := by
          rcases hL with ⟨h1, h2, h3⟩ | ⟨h1, h2⟩
          · exact absurd h2 (nf r h1)
          · exact h1
        refine ⟨_, rfl, _, rfl, _, _, rfl, rfl, _, rfl, ifD (fun _ => ?_) (fun c => absurd (by omega) c)⟩
        exact ⟨_, rfl, rfl, q _⟩
end
end Ns

/-! Own layer: the head and the end of the law of texts. -/
namespace Ns
open PySem PySem.Spec PyProof.Rows L2
/-- these are the texts ys -/
def strsB : List Value → List Str → Bool
  | [], [] => true
  | .str x _ :: us, y :: ys => decide (x = y) && strsB us ys
  | _, _ => false
theorem strs_vals : ∀ {us : List Value} {ys : List Str}, strsB us ys = true → Vals (ys.map V.str) us
  | [], [], _ => .nil
  | .str x t :: us, y :: ys, h => by
    obtain ⟨h1, h2⟩ := He.ba h
    refine .cons ?_ (strs_vals h2)
    exact ⟨t, by rw [of_decide_eq_true h1]⟩
/-- the module's name x is a tuple of these texts -/
def strsT (x : Str) (ys : List Str) : FT := fun K => (He.Fa.glo x).ok K && (match K.lookup (He.ga K x) with
  | some o => decide (o.cls = .type "tuple") && (match o.data with
    | .seq its _ => decide (its.size ≤ 1000) && strsB its.toList ys
    | _ => false)
  | none => false)
def rawT_TURNED : FT := strsT "TURNED" kinds4
abbrev R : PySem.W.OpenRow := PySem.W.OpenLaw.row PySem.Challenge.rw_netstory_k34_nearest_by_going_through_al
def loose0 : List PySem.Str := ["NetstoryError", "BadNet", "BadKind", "TooMuch", "MOST", "is_number", "is_pair", "is_net", "check_net", "matrix", "TURNED", "nearest", "turned_so", "turn", "pairs_of_place", "only", "crossed", "along", "unsplit", "all_pairs", "_law_box", "_law_take", "_law_pick", "_law_pairs", "_law_made", "_law_table", "_law_points", "_law_fours", "_law_has_place", "_law_fifth"]
def loose1 : List PySem.Str := ["_law_flip", "_law_least", "_law_pairs_right"]
abbrev loose : List PySem.Str := loose0 ++ loose1
def d_is_number : He.DefD := ⟨("is_number", none), "is_number", "is_number", defArgs s_is_number, defBody s_is_number, defScope s_is_number, [], []⟩
def d_is_pair : He.DefD := ⟨("is_pair", none), "is_pair", "is_pair", defArgs s_is_pair, defBody s_is_pair, defScope s_is_pair, [], []⟩
def d_is_net : He.DefD := ⟨("is_net", none), "is_net", "is_net", defArgs s_is_net, defBody s_is_net, defScope s_is_net, [], []⟩
def d_check_net : He.DefD := ⟨("check_net", none), "check_net", "check_net", defArgs s_check_net, defBody s_check_net, defScope s_check_net, [], []⟩
def d_matrix : He.DefD := ⟨("matrix", none), "matrix", "matrix", defArgs s_matrix, defBody s_matrix, defScope s_matrix, [], []⟩
def d_nearest : He.DefD := ⟨("nearest", none), "nearest", "nearest", defArgs s_nearest, defBody s_nearest, defScope s_nearest, [], []⟩
def d_turned_so : He.DefD := ⟨("turned_so", none), "turned_so", "turned_so", defArgs s_turned_so, defBody s_turned_so, defScope s_turned_so, [], []⟩
def d_turn : He.DefD := ⟨("turn", none), "turn", "turn", defArgs s_turn, defBody s_turn, defScope s_turn, [], []⟩
def d_pairs_of_place : He.DefD := ⟨("pairs_of_place", none), "pairs_of_place", "pairs_of_place", defArgs s_pairs_of_place, defBody s_pairs_of_place, defScope s_pairs_of_place, [], []⟩
def d_only : He.DefD := ⟨("only", none), "only", "only", defArgs s_only, defBody s_only, defScope s_only, [], []⟩
def d_crossed : He.DefD := ⟨("crossed", none), "crossed", "crossed", defArgs s_crossed, defBody s_crossed, defScope s_crossed, [], []⟩
def d_along : He.DefD := ⟨("along", none), "along", "along", defArgs s_along, defBody s_along, defScope s_along, [], []⟩
def d_unsplit : He.DefD := ⟨("unsplit", none), "unsplit", "unsplit", defArgs s_unsplit, defBody s_unsplit, defScope s_unsplit, [], []⟩
def d_all_pairs : He.DefD := ⟨("all_pairs", none), "all_pairs", "all_pairs", defArgs s_all_pairs, defBody s_all_pairs, defScope s_all_pairs, [], []⟩
def d_law_box : He.DefD := ⟨("_law_box", none), "_law_box", "_law_box", defArgs s_law_box, defBody s_law_box, defScope s_law_box, [], []⟩
def d_law_take : He.DefD := ⟨("_law_take", none), "_law_take", "_law_take", defArgs s_law_take, defBody s_law_take, defScope s_law_take, [], []⟩
def d_law_pick : He.DefD := ⟨("_law_pick", none), "_law_pick", "_law_pick", defArgs s_law_pick, defBody s_law_pick, defScope s_law_pick, [], []⟩
def d_law_pairs : He.DefD := ⟨("_law_pairs", none), "_law_pairs", "_law_pairs", defArgs s_law_pairs, defBody s_law_pairs, defScope s_law_pairs, [], []⟩
def d_law_made : He.DefD := ⟨("_law_made", none), "_law_made", "_law_made", defArgs s_law_made, defBody s_law_made, defScope s_law_made, [], []⟩
def d_law_table : He.DefD := ⟨("_law_table", none), "_law_table", "_law_table", defArgs s_law_table, defBody s_law_table, defScope s_law_table, [], []⟩
def d_law_points : He.DefD := ⟨("_law_points", none), "_law_points", "_law_points", defArgs s_law_points, defBody s_law_points, defScope s_law_points, [], []⟩
def d_law_fours : He.DefD := ⟨("_law_fours", none), "_law_fours", "_law_fours", defArgs s_law_fours, defBody s_law_fours, defScope s_law_fours, [], []⟩
def d_law_has_place : He.DefD := ⟨("_law_has_place", none), "_law_has_place", "_law_has_place", defArgs s_law_has_place, defBody s_law_has_place, defScope s_law_has_place, [], []⟩
def d_law_fifth : He.DefD := ⟨("_law_fifth", none), "_law_fifth", "_law_fifth", defArgs s_law_fifth, defBody s_law_fifth, defScope s_law_fifth, [], []⟩
def d_law_flip : He.DefD := ⟨("_law_flip", none), "_law_flip", "_law_flip", defArgs s_law_flip, defBody s_law_flip, defScope s_law_flip, [], []⟩
def d_law_least : He.DefD := ⟨("_law_least", none), "_law_least", "_law_least", defArgs s_law_least, defBody s_law_least, defScope s_law_least, [], []⟩
def d_law_pairs_right : He.DefD := ⟨("_law_pairs_right", none), "_law_pairs_right", "_law_pairs_right", defArgs s_law_pairs_right, defBody s_law_pairs_right, defScope s_law_pairs_right, [], []⟩
def d_law : He.DefD := ⟨("law", none), "law", "law", defArgs s_law, defBody s_law, defScope s_law, [], []⟩
def fn : List He.DefD := [d_is_number, d_is_pair, d_is_net, d_check_net, d_matrix, d_nearest, d_turned_so, d_turn, d_pairs_of_place, d_only, d_crossed, d_along, d_unsplit, d_all_pairs, d_law_box, d_law_take, d_law_pick, d_law_pairs, d_law_made, d_law_table, d_law_points, d_law_fours, d_law_has_place, d_law_fifth, d_law_flip, d_law_least, d_law_pairs_right, d_law]
def fx : List FT := [biT, excT "BadNet", excT "BadKind", excT "TooMuch", fun K => (He.Fa.int "MOST" 40).ok K, rawT_TURNED, fun K => (He.Fa.glo "is_number").ok K, fun K => (He.Fa.glo "is_pair").ok K, fun K => (He.Fa.glo "is_net").ok K, fun K => (He.Fa.glo "check_net").ok K, fun K => (He.Fa.glo "matrix").ok K, fun K => (He.Fa.glo "nearest").ok K, fun K => (He.Fa.glo "turned_so").ok K, fun K => (He.Fa.glo "turn").ok K, fun K => (He.Fa.glo "pairs_of_place").ok K, fun K => (He.Fa.glo "only").ok K, fun K => (He.Fa.glo "crossed").ok K, fun K => (He.Fa.glo "along").ok K, fun K => (He.Fa.glo "unsplit").ok K, fun K => (He.Fa.glo "all_pairs").ok K, fun K => (He.Fa.glo "_law_box").ok K, fun K => (He.Fa.glo "_law_take").ok K, fun K => (He.Fa.glo "_law_pick").ok K, fun K => (He.Fa.glo "_law_pairs").ok K, fun K => (He.Fa.glo "_law_made").ok K, fun K => (He.Fa.glo "_law_table").ok K, fun K => (He.Fa.glo "_law_points").ok K, fun K => (He.Fa.glo "_law_fours").ok K, fun K => (He.Fa.glo "_law_has_place").ok K, fun K => (He.Fa.glo "_law_fifth").ok K, fun K => (He.Fa.glo "_law_flip").ok K, fun K => (He.Fa.glo "_law_least").ok K, fun K => (He.Fa.glo "_law_pairs_right").ok K, fun K => (He.Fa.glo "law").ok K]
abbrev hk : PySem.W.Hook := hookX 5 fx fn
def ob (s : PySem.W.SharedT) : He.AlD := obsXG 5 fx fn (HandSHeadRun.getT s)
theorem ob_eq (s : PySem.W.SharedT) : ob s = hk.obs s.abs := obsXG_eq (HandSHeadRun.getT_eq s)
theorem head_run (w : World) : HandSHeadRun.RunEq R (PySem.W.view R.prog [37]) hk ob 6000 loose w := by
  intro os
  kernel_rfl
section
variable {K : PySem.W.Frag} {h : Heap} {mg : Str → Option Value}
theorem at_is_number (X : K.In h) (G : h.Ns mainGlobals mg) (c : SaysX fx fn K) : At K mg "is_number" s_is_number := by
  obtain ⟨fd, F⟩ := c.def_ 0 (d := d_is_number)
  exact ⟨_, fd, F, He.glo_ok X G (c.fact 6)⟩
theorem at_is_pair (X : K.In h) (G : h.Ns mainGlobals mg) (c : SaysX fx fn K) : At K mg "is_pair" s_is_pair := by
  obtain ⟨fd, F⟩ := c.def_ 1 (d := d_is_pair)
  exact ⟨_, fd, F, He.glo_ok X G (c.fact 7)⟩
theorem at_is_net (X : K.In h) (G : h.Ns mainGlobals mg) (c : SaysX fx fn K) : At K mg "is_net" s_is_net := by
  obtain ⟨fd, F⟩ := c.def_ 2 (d := d_is_net)
  exact ⟨_, fd, F, He.glo_ok X G (c.fact 8)⟩
theorem at_check_net (X : K.In h) (G : h.Ns mainGlobals mg) (c : SaysX fx fn K) : At K mg "check_net" s_check_net := by
  obtain ⟨fd, F⟩ := c.def_ 3 (d := d_check_net)
  exact ⟨_, fd, F, He.glo_ok X G (c.fact 9)⟩
theorem at_matrix (X : K.In h) (G : h.Ns mainGlobals mg) (c : SaysX fx fn K) : At K mg "matrix" s_matrix := by
  obtain ⟨fd, F⟩ := c.def_ 4 (d := d_matrix)
  exact ⟨_, fd, F, He.glo_ok X G (c.fact 10)⟩
theorem at_nearest (X : K.In h) (G : h.Ns mainGlobals mg) (c : SaysX fx fn K) : At K mg "nearest" s_nearest := by
  obtain ⟨fd, F⟩ := c.def_ 5 (d := d_nearest)
  exact ⟨_, fd, F, He.glo_ok X G (c.fact 11)⟩
theorem at_turned_so (X : K.In h) (G : h.Ns mainGlobals mg) (c : SaysX fx fn K) : At K mg "turned_so" s_turned_so := by
  obtain ⟨fd, F⟩ := c.def_ 6 (d := d_turned_so)
  exact ⟨_, fd, F, He.glo_ok X G (c.fact 12)⟩
theorem at_turn (X : K.In h) (G : h.Ns mainGlobals mg) (c : SaysX fx fn K) : At K mg "turn" s_turn := by
  obtain ⟨fd, F⟩ := c.def_ 7 (d := d_turn)
  exact ⟨_, fd, F, He.glo_ok X G (c.fact 13)⟩
theorem at_pairs_of_place (X : K.In h) (G : h.Ns mainGlobals mg) (c : SaysX fx fn K) : At K mg "pairs_of_place" s_pairs_of_place := by
  obtain ⟨fd, F⟩ := c.def_ 8 (d := d_pairs_of_place)
  exact ⟨_, fd, F, He.glo_ok X G (c.fact 14)⟩
theorem at_only (X : K.In h) (G : h.Ns mainGlobals mg) (c : SaysX fx fn K) : At K mg "only" s_only := by
  obtain ⟨fd, F⟩ := c.def_ 9 (d := d_only)
  exact ⟨_, fd, F, He.glo_ok X G (c.fact 15)⟩
theorem at_crossed (X : K.In h) (G : h.Ns mainGlobals mg) (c : SaysX fx fn K) : At K mg "crossed" s_crossed := by
  obtain ⟨fd, F⟩ := c.def_ 10 (d := d_crossed)
  exact ⟨_, fd, F, He.glo_ok X G (c.fact 16)⟩
theorem at_along (X : K.In h) (G : h.Ns mainGlobals mg) (c : SaysX fx fn K) : At K mg "along" s_along := by
  obtain ⟨fd, F⟩ := c.def_ 11 (d := d_along)
  exact ⟨_, fd, F, He.glo_ok X G (c.fact 17)⟩
theorem at_unsplit (X : K.In h) (G : h.Ns mainGlobals mg) (c : SaysX fx fn K) : At K mg "unsplit" s_unsplit := by
  obtain ⟨fd, F⟩ := c.def_ 12 (d := d_unsplit)
  exact ⟨_, fd, F, He.glo_ok X G (c.fact 18)⟩
theorem at_all_pairs (X : K.In h) (G : h.Ns mainGlobals mg) (c : SaysX fx fn K) : At K mg "all_pairs" s_all_pairs := by
  obtain ⟨fd, F⟩ := c.def_ 13 (d := d_all_pairs)
  exact ⟨_, fd, F, He.glo_ok X G (c.fact 19)⟩
theorem at_law_box (X : K.In h) (G : h.Ns mainGlobals mg) (c : SaysX fx fn K) : At K mg "_law_box" s_law_box := by
  obtain ⟨fd, F⟩ := c.def_ 14 (d := d_law_box)
  exact ⟨_, fd, F, He.glo_ok X G (c.fact 20)⟩
theorem at_law_take (X : K.In h) (G : h.Ns mainGlobals mg) (c : SaysX fx fn K) : At K mg "_law_take" s_law_take := by
  obtain ⟨fd, F⟩ := c.def_ 15 (d := d_law_take)
  exact ⟨_, fd, F, He.glo_ok X G (c.fact 21)⟩
theorem at_law_pick (X : K.In h) (G : h.Ns mainGlobals mg) (c : SaysX fx fn K) : At K mg "_law_pick" s_law_pick := by
  obtain ⟨fd, F⟩ := c.def_ 16 (d := d_law_pick)
  exact ⟨_, fd, F, He.glo_ok X G (c.fact 22)⟩
theorem at_law_pairs (X : K.In h) (G : h.Ns mainGlobals mg) (c : SaysX fx fn K) : At K mg "_law_pairs" s_law_pairs := by
  obtain ⟨fd, F⟩ := c.def_ 17 (d := d_law_pairs)
  exact ⟨_, fd, F, He.glo_ok X G (c.fact 23)⟩
theorem at_law_made (X : K.In h) (G : h.Ns mainGlobals mg) (c : SaysX fx fn K) : At K mg "_law_made" s_law_made := by
  obtain ⟨fd, F⟩ := c.def_ 18 (d := d_law_made)
  exact ⟨_, fd, F, He.glo_ok X G (c.fact 24)⟩
theorem at_law_table (X : K.In h) (G : h.Ns mainGlobals mg) (c : SaysX fx fn K) : At K mg "_law_table" s_law_table := by
  obtain ⟨fd, F⟩ := c.def_ 19 (d := d_law_table)
  exact ⟨_, fd, F, He.glo_ok X G (c.fact 25)⟩
theorem at_law_points (X : K.In h) (G : h.Ns mainGlobals mg) (c : SaysX fx fn K) : At K mg "_law_points" s_law_points := by
  obtain ⟨fd, F⟩ := c.def_ 20 (d := d_law_points)
  exact ⟨_, fd, F, He.glo_ok X G (c.fact 26)⟩
theorem at_law_fours (X : K.In h) (G : h.Ns mainGlobals mg) (c : SaysX fx fn K) : At K mg "_law_fours" s_law_fours := by
  obtain ⟨fd, F⟩ := c.def_ 21 (d := d_law_fours)
  exact ⟨_, fd, F, He.glo_ok X G (c.fact 27)⟩
theorem at_law_has_place (X : K.In h) (G : h.Ns mainGlobals mg) (c : SaysX fx fn K) : At K mg "_law_has_place" s_law_has_place := by
  obtain ⟨fd, F⟩ := c.def_ 22 (d := d_law_has_place)
  exact ⟨_, fd, F, He.glo_ok X G (c.fact 28)⟩
theorem at_law_fifth (X : K.In h) (G : h.Ns mainGlobals mg) (c : SaysX fx fn K) : At K mg "_law_fifth" s_law_fifth := by
  obtain ⟨fd, F⟩ := c.def_ 23 (d := d_law_fifth)
  exact ⟨_, fd, F, He.glo_ok X G (c.fact 29)⟩
theorem at_law_flip (X : K.In h) (G : h.Ns mainGlobals mg) (c : SaysX fx fn K) : At K mg "_law_flip" s_law_flip := by
  obtain ⟨fd, F⟩ := c.def_ 24 (d := d_law_flip)
  exact ⟨_, fd, F, He.glo_ok X G (c.fact 30)⟩
theorem at_law_least (X : K.In h) (G : h.Ns mainGlobals mg) (c : SaysX fx fn K) : At K mg "_law_least" s_law_least := by
  obtain ⟨fd, F⟩ := c.def_ 25 (d := d_law_least)
  exact ⟨_, fd, F, He.glo_ok X G (c.fact 31)⟩
theorem at_law_pairs_right (X : K.In h) (G : h.Ns mainGlobals mg) (c : SaysX fx fn K) : At K mg "_law_pairs_right" s_law_pairs_right := by
  obtain ⟨fd, F⟩ := c.def_ 26 (d := d_law_pairs_right)
  exact ⟨_, fd, F, He.glo_ok X G (c.fact 32)⟩
theorem at_law (X : K.In h) (G : h.Ns mainGlobals mg) (c : SaysX fx fn K) : At K mg "law" s_law := by
  obtain ⟨fd, F⟩ := c.def_ 27 (d := d_law)
  exact ⟨_, fd, F, He.glo_ok X G (c.fact 33)⟩
end
theorem strs_ok {K : PySem.W.Frag} {h : Heap} {mg : Str → Option Value} {x : Str} {ys : List Str} (X : K.In h) (G : h.Ns mainGlobals mg) (c : strsT x ys K = true) : mg x = some (.ref (He.ga K x)) ∧ ∀ H, SqT K H (He.ga K x) (ys.map V.str) := by
  obtain ⟨c1, c2⟩ := He.ba c
  refine ⟨He.glo_ok X G c1, fun H => .inr ?_⟩
  cases e : K.lookup (He.ga K x) with
  | none => rw [e] at c2; cases c2
  | some o =>
    rw [e] at c2
    obtain ⟨c3, c4⟩ := He.ba c2
    cases ed : o.data with
    | seq its n =>
      rw [ed] at c4
      obtain ⟨c5, c6⟩ := He.ba c4
      exact ⟨o, its, n, rfl, of_decide_eq_true c3, ed, Nat.le_of_lt (sizeBig (by have := of_decide_eq_true c5; omega)), strs_vals c6⟩
    | _ => rw [ed] at c4; cases c4
theorem law_facts {P : Program} {w : World} {K : PySem.W.Frag} {h : Heap} {mg : Str → Option Value} {f : Addr} (X : K.In h) (G : h.Ns mainGlobals mg) (hfa : mg ("law" : Str) = some (.ref f)) (c : SaysX fx fn K) :
    ∃ fd : FuncData, (∀ (s : Shared) (v : Value), BindsTo s fd ⟨[v], []⟩ [("script", v)]) ∧ ∀ base : Heap, K.In base → base.Ns mainGlobals mg → FnOk P w K mg base (L2.CX P w) 10 f fd ["script"] (sp_law K) := by
  obtain ⟨f2, fd, F, hm⟩ := (at_law X G c).ex
  have e := hfa.symm.trans hm
  cases e
  have b := FunD.bindsA (ps := ["script"]) F fun _ _ _ _ _ _ us hl => match us, hl with | [_], _ => rfl
  refine ⟨fd, fun s v => b s [v] rfl, fun base _ _ => ?_⟩
  have B : Bi mg := bi_of X G (c.fact 0)
  have xB : ExcC K mg "BadNet" (He.ga K "BadNet") := excC_of X G (c.fact 1)
  have xK : ExcC K mg "BadKind" (He.ga K "BadKind") := excC_of X G (c.fact 2)
  have xM : ExcC K mg "TooMuch" (He.ga K "TooMuch") := excC_of X G (c.fact 3)
  have iM : ∃ t, mg "MOST" = some (.int 40 t) := He.int_ok X G (c.fact 4)
  obtain ⟨gT, sT⟩ := strs_ok X G (c.fact 5)
  have c1 := cal_is_number (P := P) (w := w) (base := base) (at_is_number X G c) B
  have c2 := cal_is_pair (at_is_pair X G c) B c1
  have c3 := cal_is_net (at_is_net X G c) B iM c1 c2
  have c4 := cal_check_net (at_check_net X G c) xB c3
  have c5 := cal_matrix (P := P) (w := w) (base := base) (at_matrix X G c) B
  have p1 := cal_turn (P := P) (w := w) (base := base) (at_turn X G c) B
  have p2 := cal_only (P := P) (w := w) (base := base) (at_only X G c) B
  have p3 := cal_crossed (at_crossed X G c) B p2
  have p4 := cal_along (at_along X G c) B p2
  have p5 := cal_all_pairs (P := P) (w := w) (base := base) (at_all_pairs X G c) B
  have p6 := cal_unsplit (at_unsplit X G c) B p2 p5
  have p7 := cal_pairs_of (at_pairs_of_place X G c) B p3 p6 p4
  have p8 := cal_so (at_turned_so X G c) B p1 p7 4
  have p9 := cal_nearest (at_nearest X G c) B xK xM gT sT c4 c1 c5 p8
  have t1 := cal_box (P := P) (w := w) (base := base) (at_law_box X G c) B
  have t2 := cal_take (P := P) (w := w) (base := base) (at_law_take X G c) B
  have t3 := cal_pick (at_law_pick X G c) B t2
  have t4 := cal_pairs (P := P) (w := w) (base := base) (at_law_pairs X G c) B
  have t5 := cal_made (at_law_made X G c) B t4
  have u1 := cal_table (P := P) (w := w) (base := base) (at_law_table X G c) B
  have u2 := cal_points (P := P) (w := w) (base := base) (at_law_points X G c) B
  have u3 := cal_fours (P := P) (w := w) (base := base) (at_law_fours X G c) B
  have u4 := cal_fifth (P := P) (w := w) (base := base) (at_law_fifth X G c) B
  have u5 := cal_has_place (at_law_has_place X G c) B u3 u4
  have u6 := cal_flip (P := P) (w := w) (base := base) (at_law_flip X G c) B
  have u7 := cal_least (at_law_least X G c) B t4 u6 u5
  have u8 := cal_pairs_right (at_law_pairs_right X G c) B u2
  exact ok_law F B t1 t2 t3 t4 t5 u1 u7 p9 u8 u6 u5
end Ns
open PySem PySem.W PySem.Calls PyProof.Rows
theorem PySem.Challenge.cw_netstory_k34_nearest_by_going_through_al_holds : PySem.Challenge.rw_netstory_k34_nearest_by_going_through_al.Holds := by
  w_on; o_law
  refine HandSHeadRun.head_any (r := OpenLaw.row PySem.Challenge.rw_netstory_k34_nearest_by_going_through_al) (q := view (OpenLaw.row PySem.Challenge.rw_netstory_k34_nearest_by_going_through_al).prog [37])
    (H := Ns.hk) (ob := Ns.ob) (M := 6000) (loose := Ns.loose) (kwd := [])
    (d := HandSHeadRun.topDef (OpenLaw.row PySem.Challenge.rw_netstory_k34_nearest_by_going_through_al).prog 37) Ns.ob_eq
    (by kernel_rfl) (fun s => by kernel_rfl) Ns.head_run (by kernel_rfl) (by kernel_rfl) (by kernel_rfl)
    (by rfl) (by first | assumption | decide +kernel) (by decide +kernel)
    ⟨rfl, rfl, rfl, rfl, rfl, by decide +kernel⟩ ?hw ?hc
  case hw => w_witness2
  case hc =>
    refine Ns.end_walk (l := PySem.Challenge.rw_netstory_k34_nearest_by_going_through_al) (n := 63) (k := 10) (x := "script")
      rfl (by decide) (by kernel_rfl) ⟨rfl, by decide, by decide⟩ ?F
    rintro w mg fa h ⟨K, KX, c⟩ G hmg0
    have hmg : mg ("law" : PySem.Str) = some (.ref fa) := by
      have e : (HandSHeadRun.topDef (OpenLaw.row PySem.Challenge.rw_netstory_k34_nearest_by_going_through_al).prog 37).name = ("law" : PySem.Str) := by kernel_rfl
      rw [← e]
      exact hmg0
    obtain ⟨fd, hb, hF⟩ := Ns.law_facts (P := (PySem.Challenge.rw_netstory_k34_nearest_by_going_through_al).prog) (w := w) KX G hmg c
    exact ⟨K, fd, Ns.sp_law K, KX, hb, fun H a ns hl hS => ⟨a, ns, rfl, hS, hl, fun _ => rfl⟩, hF⟩

