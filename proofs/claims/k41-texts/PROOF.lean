import PyProof.Rows.All
import Wide.All
import OpenK.AllK
import Wide.FinOn
import KE.KStateDown
import Lean
import HandS.ForMost
import HandS.ForExc
import HandS.Deep
import HandS.Defaults
import HandS.IsInst
import HandS.More
import HandS.Flow
import HandS.SetKeys
import HandS.Strs
import HandS.Sort
import HandS.SortInts
import HandS.SortRule
import HandS.TupAny
import HandS.TupLe
import HandS.Conv
import HandS.Rev
import HandS.DictTup
import HandS.RaiseOp
import HandS.Head0
import HandS.Head1
import HandS.Head2
import HandS.HeadEnd
import HandS.HeadHook1
import HandS.HeadHook2
import HandS.Codes
import KE.KDictPairs
import PySem.Challenge.RW_netstory_k41_texts_there_and_back
set_option Elab.async false
set_option linter.all false
set_option maxRecDepth 100000
set_option maxHeartbeats 0
/-! Own layer A: chains of three comparisons, three names at once, calls of defs that may raise, facts by any test. -/
namespace Ns
open PySem PySem.Spec PyProof.Rows L2
section
variable {X : Cx} {a b c d : Expr} {ta tb tc td : TE} {pos : Pos}
def tChain3 (r r' r2 : R2) (ta tb tc td : TE) : TE := fun σ H Q => ta σ H fun x H1 => tb σ H1 fun y H2 => r x y H2 fun z H3 => ∃ k, z = .bl k ∧
  (if k = true then tc σ H3 fun y' H4 => r' y y' H4 fun z' H5 => ∃ k', z' = .bl k' ∧ (if k' = true then td σ H5 fun y2 H6 => r2 y' y2 H6 Q else Q (.bl false) H5) else Q (.bl false) H3)
theorem pe_chain3 {op op' op2 : CmpOp} {r r' r2 : R2} (ho : OpR X (compareOp op) r) (ho' : OpR X (compareOp op') r') (ho2 : OpR X (compareOp op2) r2) (ha : PE X a ta) (hb : PE X b tb) (hc : PE X c tc) (hd : PE X d td)
    (hm : lastMarks [op, op', op2] [b, c, d] = false := by with_unfolding_all rfl) : PE X (.Compare a [op, op', op2] [b, c, d] pos) (tChain3 r r' r2 ta tb tc td) := by
  refine ⟨fun pins s σ H Q I h => ?_⟩
  refine Compare_chain (thn (ha.run pins s σ H _ I h) fun v s1 ⟨x, H1, I1, r1, q1⟩ => chain_link (thn (hb.run pins s1 σ H1 _ I1 q1) fun u s2 ⟨y, H2, I2, r2', q2⟩ =>
    thn (ho pins s2 σ H2 x y v u _ I2 r1 r2' q2) fun d s3 ⟨z, H3, I3, r3, k, e, q3⟩ => ?_)) hm
  subst e
  cases r3
  refine wpAny_truthy_bool ?_
  cases k with
  | false => exact ite_ff ⟨.bl false, H3, I3, rfl, q3⟩
  | true =>
    refine ite_tt (chain_link (thn (hc.run pins s3 σ H3 _ I3 q3) fun u' s4 ⟨y', H4, I4, r4, q4⟩ => thn (ho' pins s4 σ H4 y y' u u' _ I4 r2' r4 q4) fun d' s5 ⟨z', H5, I5, r5, k', e', q5⟩ => ?_))
    subst e'
    cases r5
    refine wpAny_truthy_bool ?_
    cases k' with
    | false => exact ite_ff ⟨.bl false, H5, I5, rfl, q5⟩
    | true => exact ite_tt (chain_last (thn (hd.run pins s5 σ H5 _ I5 q5) fun w' s6 ⟨z6, H6, I6, r6, q6⟩ => ho2 pins s6 σ H6 y' z6 u' w' Q I6 r4 r6 q6))
theorem pt_chain3 {op op' op2 : CmpOp} {r r' r2 : R2} (ho : OpR X (compareOp op) r) (ho' : OpR X (compareOp op') r') (ho2 : OpR X (compareOp op2) r2) (ha : PE X a ta) (hb : PE X b tb) (hc : PE X c tc) (hd : PE X d td)
    (hm : lastMarks [op, op', op2] [b, c, d] = false := by with_unfolding_all rfl) : PT X (.Compare a [op, op', op2] [b, c, d] pos) (tTest (tChain3 r r' r2 ta tb tc td)) := by
  refine ⟨fun pins s σ H Q I h => ?_⟩
  refine isTrue_chain (thn (ha.run pins s σ H _ I h) fun v s1 ⟨x, H1, I1, r1, q1⟩ => test_link (thn (hb.run pins s1 σ H1 _ I1 q1) fun u s2 ⟨y, H2, I2, r2', q2⟩ =>
    thn (ho pins s2 σ H2 x y v u _ I2 r1 r2' q2) fun d s3 ⟨z, H3, I3, r3, k, e, q3⟩ => ?_)) hm
  subst e
  cases r3
  refine wpAny_truthy_bool ?_
  cases k with
  | false =>
    obtain ⟨k', e', q'⟩ := q3
    cases e'
    exact ite_ff ⟨H3, I3, q'⟩
  | true =>
    refine ite_tt (test_link (thn (hc.run pins s3 σ H3 _ I3 q3) fun u' s4 ⟨y', H4, I4, r4, q4⟩ => thn (ho' pins s4 σ H4 y y' u u' _ I4 r2' r4 q4) fun d' s5 ⟨z', H5, I5, r5, k', e', q5⟩ => ?_))
    subst e'
    cases r5
    refine wpAny_truthy_bool ?_
    cases k' with
    | false =>
      obtain ⟨k2, e2, q2⟩ := q5
      cases e2
      exact ite_ff ⟨H5, I5, q2⟩
    | true =>
      refine ite_tt (test_last (thn (hd.run pins s5 σ H5 _ I5 q5) fun w' s6 ⟨z6, H6, I6, r6, q6⟩ => thn (ho2 pins s6 σ H6 y' z6 u' w' _ I6 r4 r6 q6) fun d7 s7 ⟨z7, H7, I7, r7, k2, e2, q7⟩ => ?_))
      subst e2
      cases r7
      exact wpAny_truthy_bool ⟨H7, I7, q7⟩
end
/-! ### a, b, c = x, y, z -/
section
variable {X : Cx} {pos : Pos}
def tPar3 (i j l : Nat) (ta : TA) : TS := fun D σ H => ta σ H fun vs H1 => ∃ u v w, vs = [u, v, w] ∧ D.nx (((σ.set i (some u)).set j (some v)).set l (some w)) H1
theorem ps_par3 {i j l : Nat} {x y z : Str} {a b c : Expr} {ta : TA} {px py pz pt : Pos} {kt k2 pt2} (hc : X.calm = true) (hN : X.N.Nodup) (hi : X.N[i]? = some x) (hj : X.N[j]? = some y) (hl : X.N[l]? = some z) (hij : i ≠ j) (hil : i ≠ l) (hjl : j ≠ l)
    (hx : X.env.scope.names.lookup x = some .local) (hy : X.env.scope.names.lookup y = some .local) (hz : X.env.scope.names.lookup z = some .local) (ha : PA X [a, b, c] ta)
    (hw : swappedStores [.Tuple [.Name x px, .Name y py, .Name z pz] kt pt] (.Tuple [a, b, c] k2 pt2) X.env = pure (some [x, y, z]))
    (hs : swapsWithSole [.Tuple [.Name x px, .Name y py, .Name z pz] kt pt] (.Tuple [a, b, c] k2 pt2) pos.line X.env = pure false := by rfl) :
    PS X (.Assign [.Tuple [.Name x px, .Name y py, .Name z pz] kt pt] (.Tuple [a, b, c] k2 pt2) pos) (tPar3 i j l ta) := by
  refine ⟨fun pins s σ H D I h => ?_⟩
  rw [exec_Assign_arm]
  refine wpAny_bind (wpAny_standAt ?_)
  rw [hs]
  refine wpAny_bind (wpAny_pure ?_)
  rw [if_neg (by decide)]
  refine wpAny_bind (Tuple_ (thn (ha.run _ pins s σ H _ I h) fun us s1 ⟨vs, H1, I1, r1, q1⟩ => ?_))
  obtain ⟨t, v, w, e1, q1⟩ := q1
  subst e1
  obtain ⟨u0, u1, u2, rfl, rt, rv, rw'⟩ : ∃ u0 u1 u2, us = [u0, u1, u2] ∧ RelV t u0 ∧ RelV v u1 ∧ RelV w u2 := by
    cases r1 with
    | cons p q =>
      cases q with
      | cons p' q' =>
        cases q' with
        | cons p2 q2 =>
          cases q2
          exact ⟨_, _, _, rfl, p, p', p2⟩
  refine wpAny_newObj_type ?_ (by show 3 ≤ sizeLine; decide)
  have I2 : Inv X pins σ H1 { s1 with heap := s1.heap.push { cls := .type "tuple", data := .seq [u0, u1, u2].toArray } } := I1.kept (t' := s1.toks) fun b o e => Heap.get?_push_of_some _ e
  rw [hw]
  refine wpAny_bind (wpAny_pure ?_)
  show wpAny (model X.prog X.w) X.A (do rule "assign.swapped-stores"; let items ← unpackItems (.ref s1.heap.objs.size) 3 none; assignInOrder [fun v => bindName X.env z v, fun v => bindName X.env y v, fun v => bindName X.env x v] items.reverse; pure Flow.next) _ _ _
  refine wpAny_bind (wpAny_rule (wpAny_bind (unpackItems_tuple (items := #[u0, u1, u2]) (I.ok.hd hc) (IsTup.new s1.heap _) fun h' hx' => ?_)))
  have I3 := I2.kept (h' := h') (t' := s1.toks) fun b o e => hx' b o (Nat.ne_of_lt (Heap.lt_size e)) e
  show wpAny _ _ (assignInOrder [fun v => bindName X.env z v, fun v => bindName X.env y v, fun v => bindName X.env x v] [u2, u1, u0] >>= fun _ => pure Flow.next) _ _ _
  refine wpAny_bind (assignInOrder_cons (wpAny_bindName (store_ok I3 hN hl (.inl hz) rw' (fun s2 I4 => ?_) (.inr hz))))
  refine assignInOrder_cons (wpAny_bindName (store_ok I4 hN hj (.inl hy) rv (fun s3 I5 => ?_) (.inr hy)))
  refine assignInOrder_cons (wpAny_bindName (store_ok I5 hN hi (.inl hx) rt (fun s4 I6 => assignInOrder_nil (wpAny_pure ?_)) (.inr hx)))
  have e : ((σ.set l (some w)).set j (some v)).set i (some t) = ((σ.set i (some t)).set j (some v)).set l (some w) := by
    rw [List.set_comm _ _ (Ne.symm hij), List.set_comm _ _ (Ne.symm hil), List.set_comm _ _ (Ne.symm hjl)]
  rw [e] at I6
  exact ⟨_, H1, I6, q1⟩
end
/-! ### a def of the module by its name: what it may let out is CX -/
section
variable {P : Program} {w : World} {K : PySem.W.Frag} {mg : Str → Option Value} {base : Heap}
/-- the module's name x is a def that keeps the promise sp, at level k -/
structure Cal (P : Program) (w : World) (K : PySem.W.Frag) (mg : Str → Option Value) (base : Heap) (k : Nat) (x : Str) (sp : Sp) : Prop where
  ex : ∃ (f : Addr) (fd : FuncData) (ps : List Str), FnOk P w K mg base (L2.CX P w) k f fd ps sp ∧ mg x = some (.ref f) ∧ PySem.W.keepIn K (.ref f) = true ∧ Binds K fd ps []
abbrev FnP (K : PySem.W.Frag) (x : Str) (st : Stmt) (f : Addr) (fd : FuncData) : Prop := FunD K x x (defArgs st) (defBody st) (defScope st) [] [] f fd
/-- where the def st stands under the name x -/
structure At (K : PySem.W.Frag) (mg : Str → Option Value) (x : Str) (st : Stmt) : Prop where
  ex : ∃ (f : Addr) (fd : FuncData), FnP K x st f fd ∧ mg x = some (.ref f)
theorem At.cal {x : Str} {st : Stmt} {N ps : List Str} {k : Nat} {sp : Sp} (F : At K mg x st) (S : FnScope N ps (defScope st))
    (hb : ∀ (kV doc pm : Value) (an : Option Addr) (cdv ct : Value) (us : List Value), us.length = ps.length → bindArgs (PySem.W.fnOf x x (defArgs st) (defBody st) (defScope st) .none kV doc pm an cdv ct) ⟨us, []⟩ = pure (ps.zip us))
    (len : ∀ vs H Q E, sp vs H Q E → vs.length = ps.length)
    (hbody : ∀ (f : Addr) (cdv : Value) (A : Around) (outer : List Env) (s : Shared) (H : Hp) (vs : List V) (Q : VK) (E : XK), Room k (A.deeper (envOfC x (defScope st) s.heap.objs.size f cdv)) → sp vs H Q E →
      ∃ t, PSs (cxOf (L2.CX P w) P w K mg base N x (defScope st) f cdv A outer s H E) (defBody st) t ∧ t { nx := fun _ H' => Q .non H', rt := Q } (start N vs) H) : Cal P w K mg base (k + 1) x sp := by
  obtain ⟨f, fd, F, hm⟩ := F.ex
  exact ⟨f, fd, ps, F.ok S len (hbody f), hm, F.kp, F.bindsN hb⟩
theorem Cal.mono {j k : Nat} {x : Str} {sp : Sp} (c : Cal P w K mg base j x sp) (h : j ≤ k) : Cal P w K mg base k x sp := by
  obtain ⟨f, fd, ps, F, a, b, d⟩ := c.ex
  exact ⟨f, fd, ps, F.mono h, a, b, d⟩
theorem Cal.imp {k : Nat} {x : Str} {sp sp' : Sp} (c : Cal P w K mg base k x sp) (h : ∀ vs H Q E, sp' vs H Q E → sp vs H Q E) : Cal P w K mg base k x sp' := by
  obtain ⟨f, fd, ps, F, a, b, d⟩ := c.ex
  exact ⟨f, fd, ps, F.imp h, a, b, d⟩
end
section
variable {X : Cx} {k j : Nat} {x : Str} {sp : Sp} {E : XK} {p pos : Pos} {e : Expr} {es : List Expr} {t : TA}
theorem pe_cal (F : Cal X.prog X.w X.K X.mg X.base k x sp) (hr : Room j X.A) (hk : k ≤ j) (hg : Gl X x) (hx : Passes (L2.CX X.prog X.w) X E) (ha : PA X (e :: es) t) (hdb : (x == ("__debug__" : Str)) = false := by decide)
    (he : starEach (e :: es) X.env = (false, eval e X.env) :: starEach es X.env := by rfl) (hpl : (backTo pos (starEach es X.env)).any (·.1) = false := by rfl) :
    PE X (.Call (.Name x p) (e :: es) [] pos) (tCall sp [] E t) := by
  obtain ⟨f, fd, ps, G, hm, kp, b⟩ := F.ex
  exact pe_call G (hr.mono hk) hg hm kp b .nil hx ha hdb he hpl
theorem pe_cal0 (F : Cal X.prog X.w X.K X.mg X.base k x sp) (hr : Room j X.A) (hk : k ≤ j) (hg : Gl X x) (hx : Passes (L2.CX X.prog X.w) X E) (hdb : (x == ("__debug__" : Str)) = false := by decide) :
    PE X (.Call (.Name x p) [] [] pos) (tCall sp [] E tNil) := by
  obtain ⟨f, fd, ps, G, hm, kp, b⟩ := F.ex
  exact pe_call0 G (hr.mono hk) hg hm kp b .nil hx hdb
/-- what a callee raises goes on out of the def -/
theorem passE {P : Program} {w : World} {K : PySem.W.Frag} {mg : Str → Option Value} {base : Heap} {N : List Str} {qual : Str} {sc : Scope} {f : Addr} {cd : Value} {A : Around} {outer : List Env} {s : Shared} {H : Hp} {E : XK} :
    Passes (L2.CX P w) (cxOf (L2.CX P w) P w K mg base N qual sc f cd A outer s H E) E :=
  passes_call (W := fun cls d _ H => E cls d H) (takes_of rfl rfl rfl rfl) fun _ _ _ _ h => h
end
/-! ### facts of the written part by any test of one's own -/
abbrev FT := PySem.W.Frag → Bool
def obsX (fx : List FT) (fn : List He.DefD) (K : PySem.W.Frag) : He.AlD := ((fx.all fun f => f K) && fn.all fun d => d.ok K, fn.map fun d => He.fnW K d.at_)
def SaysX (fx : List FT) (fn : List He.DefD) (K : PySem.W.Frag) : Prop := obsX fx fn K = He.valD fn
def obsXG (n : Nat) (fx : List FT) (fn : List He.DefD) (g : Addr → Option Obj) : He.AlD := obsX fx fn (He.frG g (He.asD g n))
def hookX (n : Nat) (fx : List FT) (fn : List He.DefD) : PySem.W.Hook where
  α := He.AlD
  obs := fun s => obsXG n fx fn s.heap.get?
  val := fun _ => He.valD fn
  says := fun _ h => ∃ K : PySem.W.Frag, K.In h ∧ SaysX fx fn K
  of := fun _ _ e => ⟨_, He.frG_in, e⟩
  keeps := fun _ _ _ ⟨K, hK, c⟩ k => ⟨K, PySem.W.Frag.In.keeps hK k, c⟩
theorem obsXG_eq {n : Nat} {fx : List FT} {fn : List He.DefD} {g : Addr → Option Obj} {s : Shared} (h : ∀ a, g a = s.heap.get? a) : obsXG n fx fn g = (hookX n fx fn).obs s := by
  have e : g = s.heap.get? := funext h
  rw [e] <;> rfl
section
variable {fx : List FT} {fn : List He.DefD} {K : PySem.W.Frag}
theorem SaysX.fact (c : SaysX fx fn K) (i : Nat) {f : FT} (h : fx[i]? = some f := by rfl) : f K = true := by
  have c1 := (He.ba (show ((fx.all fun f => f K) && fn.all fun d => d.ok K) = true from congrArg (fun z : He.AlD => z.1) c)).1
  exact List.all_eq_true.mp c1 f (List.mem_of_getElem? h)
theorem SaysX.def_ (c : SaysX fx fn K) (i : Nat) {d : He.DefD} (h : fn[i]? = some d := by rfl) : ∃ fd, FunD K d.name d.qual d.params d.body d.scope (d.dvs K) (d.kws K) (He.fAd K d.at_) fd := by
  have c2 := (He.ba (show ((fx.all fun f => f K) && fn.all fun d => d.ok K) = true from congrArg (fun z : He.AlD => z.1) c)).2
  have e : fn.map (fun d => He.fnW K d.at_) = fn.map He.DefD.val := congrArg (fun z : He.AlD => z.2) c
  have e2 : (fn.map fun d => He.fnW K d.at_)[i]? = (fn.map He.DefD.val)[i]? := by rw [e]
  rw [List.getElem?_map, List.getElem?_map, h] at e2
  exact He.DefD.funD (Option.some.inj e2) (List.all_eq_true.mp c2 d (List.mem_of_getElem? h))
end
end Ns
namespace Ns
open PySem PySem.Spec PyProof.Rows L2
/-! ### built-in names that the text leaves free -/
structure Bi (mg : Str → Option Value) : Prop where
  abs : mg "abs" = none
  int_ : mg "int" = none
  len : mg "len" = none
  range : mg "range" = none
  tuple : mg "tuple" = none
  list : mg "list" = none
  dict_ : mg "dict" = none
  set_ : mg "set" = none
  str_ : mg "str" = none
  bool : mg "bool" = none
  sorted : mg "sorted" = none
  min : mg "min" = none
  max : mg "max" = none
  sum : mg "sum" = none
  any : mg "any" = none
  all : mg "all" = none
  isinstance : mg "isinstance" = none
  enumerate : mg "enumerate" = none
  zip : mg "zip" = none
  reversed : mg "reversed" = none
def biNames : List Str := ["abs", "int", "len", "range", "tuple", "list", "dict", "set", "str", "bool", "sorted", "min", "max", "sum", "any", "all", "isinstance", "enumerate", "zip", "reversed"]
def freeT (x : Str) : FT := fun K => (He.Fa.free x).ok K
def biT : FT := fun K => biNames.all fun x => freeT x K
theorem bi_of {K : PySem.W.Frag} {h : Heap} {mg : Str → Option Value} (X : K.In h) (G : h.Ns mainGlobals mg) (c : biT K = true) : Bi mg := by
  have f : ∀ x ∈ biNames, mg x = none := fun x hx => He.free_ok X G (List.all_eq_true.mp c x hx)
  exact ⟨f _ (by simp [biNames]), f _ (by simp [biNames]), f _ (by simp [biNames]), f _ (by simp [biNames]), f _ (by simp [biNames]), f _ (by simp [biNames]), f _ (by simp [biNames]), f _ (by simp [biNames]), f _ (by simp [biNames]), f _ (by simp [biNames]),
    f _ (by simp [biNames]), f _ (by simp [biNames]), f _ (by simp [biNames]), f _ (by simp [biNames]), f _ (by simp [biNames]), f _ (by simp [biNames]), f _ (by simp [biNames]), f _ (by simp [biNames]), f _ (by simp [biNames]), f _ (by simp [biNames])⟩
/-- a loop's own errors leave the def -/
theorem passOwn {CX : CXT} {P : Program} {w : World} {K : PySem.W.Frag} {mg : Str → Option Value} {base : Heap} {N : List Str} {qual : Str} {sc : Scope} {f : Addr} {cd : Value} {A : Around} {outer : List Env} {s : Shared} {H : Hp} {E : XK} :
    PassesOwn (model (cxOf CX P w K mg base N qual sc f cd A outer s H E).prog (cxOf CX P w K mg base N qual sc f cd A outer s H E).w) (cxOf CX P w K mg base N qual sc f cd A outer s H E).A (cxOf CX P w K mg base N qual sc f cd A outer s H E).env (cxOf CX P w K mg base N qual sc f cd A outer s H E).xe := PassesOwn.leaving
theorem hu65 {A : Around} {k : Nat} (hr : Room k A) : A.units + 65 < cLine := by have := hr.un; omega
end Ns
namespace Ns
open PySem PySem.Spec PyProof.Rows L2
/-! ### ways of a test -/
theorem ifD {p : Prop} [Decidable p] {A B : Prop} (h1 : p → A) (h2 : ¬ p → B) : if decide p = true then A else B := by
  by_cases h : p
  · rw [if_pos (decide_eq_true h)]
    exact h1 h
  · rw [if_neg (by simpa using h)]
    exact h2 h
theorem ifI {i j : Int} {A B : Prop} (h1 : i = j → A) (h2 : i ≠ j → B) : if decide (V.int i = V.int j) = true then A else B :=
  ifD (fun h => h1 (V.int.inj h)) fun h => h2 fun e => h (congrArg V.int e)
theorem ifNI {i j : Int} {A B : Prop} (h1 : i ≠ j → A) (h2 : i = j → B) : if (!decide (V.int i = V.int j)) = true then A else B := by
  by_cases h : i = j
  · rw [decide_eq_true (congrArg V.int h)]
    exact iteF (h2 h)
  · rw [decide_eq_false fun e => h (V.int.inj e)]
    exact iteT (h1 h)
theorem ifB {b : Bool} {A B : Prop} (h1 : b = true → A) (h2 : b = false → B) : if b = true then A else B := by
  cases b
  · exact iteF (h2 rfl)
  · exact iteT (h1 rfl)
theorem ifN {b : Bool} {A B : Prop} (h1 : b = false → A) (h2 : b = true → B) : if (!b) = true then A else B := by
  cases b
  · exact iteT (h1 rfl)
  · exact iteF (h2 rfl)
theorem ifY {p : Prop} [Decidable p] {A B : Prop} (h : p) (h1 : A) : if decide p = true then A else B := by
  rw [if_pos (decide_eq_true h)]
  exact h1
theorem ifX {p : Prop} [Decidable p] {A B : Prop} (h : ¬ p) (h1 : B) : if decide p = true then A else B := by
  rw [if_neg (by simpa using h)]
  exact h1
end Ns
namespace Ns
open PySem PySem.Spec PyProof.Rows L2
/-! ### the rules whose reading names the written part, with that named K -/
section
variable {X : Cx} {K : PySem.W.Frag} {a b e : Expr} {es : List Expr} {ta tb te : TE} {rest : List Expr} {pos : Pos}
theorem pg_tupK {k : Nat} {t : TGs} {n : Nat} (hK : X.K = K) (hc : X.calm = true) (h : PGs X es t)
    (hn : (assignEach es X.env).length = n := by rfl) (hst : (assignEach es X.env).findIdx? (·.1) = none := by rfl) : PG X (.Tuple es k pos) (gTup K n t) := by
  subst hK
  exact pg_tup hc h hn hst
theorem ix_listK (hK : X.K = K) : IxR X (rIxL K) := by subst hK; exact ix_list
theorem ix_tupK (hK : X.K = K) : IxR X (rIxT K) := by subst hK; exact ix_tup
theorem ix_seqK (hK : X.K = K) : IxR X (rIx K) := by subst hK; exact ix_seq
theorem sl_listK (hK : X.K = K) : SlR X (rSlL K) := by subst hK; exact sl_list
theorem sl_tupAK (hK : X.K = K) : SlR X (rSlA K) := by subst hK; exact sl_tupA
theorem op_in_seqK (hK : X.K = K) : OpR X (compareOp .In) (rIn K false) := by subst hK; exact op_in_seq
theorem op_notIn_seqK (hK : X.K = K) : OpR X (compareOp .NotIn) (rIn K true) := by subst hK; exact op_notIn_seq
theorem op_inDK (hK : X.K = K) (hu : X.A.units + 65 < cLine) : OpR X (compareOp .In) (rInD K) := by subst hK; exact op_inD hu
theorem op_notInDK (hK : X.K = K) (hu : X.A.units + 65 < cLine) : OpR X (compareOp .NotIn) (rNotInD K) := by subst hK; exact op_notInD hu
theorem op_eqDK (hK : X.K = K) (hu : X.A.units + 64 < cLine) : OpR X (compareOp .Eq) (rEqD K) := by subst hK; exact op_eqD hu
theorem op_neDK (hK : X.K = K) (hu : X.A.units + 64 < cLine) : OpR X (compareOp .NotEq) (rNeD K) := by subst hK; exact op_neD hu
theorem op_ltTK (hK : X.K = K) (hu : X.A.units < cLine) : OpR X (compareOp .Lt) (rLtT K) := by subst hK; exact op_ltT hu
theorem op_leTK (hK : X.K = K) (hu : X.A.units < cLine) : OpR X (compareOp .LtE) (rLeT K) := by subst hK; exact op_leT hu
theorem op_catAK (hK : X.K = K) : OpR X (binaryOp .Add) (rCatA K) := by subst hK; exact op_catA
def rLenK (K : PySem.W.Frag) : List V → Hp → VK → Prop := fun xs H Q => ∃ x n, xs = [x] ∧ LenV K x H n ∧ Q (.int n) H
theorem call_lenK (hK : X.K = K) : CallR X (.builtin "len") (rLenK K) := by subst hK; exact call_len
def rListOfK (K : PySem.W.Frag) : List V → Hp → VK → Prop := fun xs H Q => ∃ p ys, xs = [.ref p] ∧ (SqL K H p ys ∨ SqT K H p ys) ∧ ∀ l, H l = none → Q (.ref l) (upd H l (.lst ys))
theorem call_list_ofK (hK : X.K = K) : CallR X (.type "list") (rListOfK K) := by subst hK; exact call_list_of
def rTupOfK (K : PySem.W.Frag) : List V → Hp → VK → Prop := fun xs H Q => ∃ p ys, xs = [.ref p] ∧ ((SqL K H p ys ∧ ∀ l, H l = none → Q (.ref l) (upd H l (.tup ys))) ∨ (SqT K H p ys ∧ Q (.ref p) H))
theorem call_tuple_ofK (hK : X.K = K) : CallR X (.type "tuple") (rTupOfK K) := by subst hK; exact call_tuple_of
theorem call_isiK' (hK : X.K = K) : CallR X (.builtin "isinstance") (rIsi K) := by subst hK; exact call_isi
def tTru (K : PySem.W.Frag) (ta : TE) : TT := fun σ H Q => ta σ H fun x H' => ∃ k, TruV K x H' k ∧ Q k H'
theorem pt_truthK (hK : X.K = K) (ha : PE X a ta) (he : ∀ whole, isTrue a X.env whole = (do let v ← whole; standAt a.pos; holding [v] (truthy v))) : PT X a (tTru K ta) := by subst hK; exact pt_truth ha he
theorem pe_notTK (hK : X.K = K) (ha : PE X a ta) : PE X (.UnaryOp .Not a pos) (tNotT K ta) := by subst hK; exact pe_notT ha
theorem pe_orTK (hK : X.K = K) (ha : PE X a ta) (hb : PE X (.BoolOp .Or (b :: rest) pos) tb) : PE X (.BoolOp .Or (a :: b :: rest) pos) (tOrT K ta tb) := by subst hK; exact pe_orT ha hb
theorem pe_andTK (hK : X.K = K) (ha : PE X a ta) (hb : PE X (.BoolOp .And (b :: rest) pos) tb) : PE X (.BoolOp .And (a :: b :: rest) pos) (tAndT K ta tb) := by subst hK; exact pe_andT ha hb
theorem pi_listK {tg : Expr} (hK : X.K = K) (hl : PE X e te) : PI X tg e (iList K te) := by subst hK; exact pi_list hl
theorem pi_tupK {tg : Expr} (hK : X.K = K) (hl : PE X e te) : PI X tg e (iTup K te) := by subst hK; exact pi_tup hl
theorem pi_enumK {t : TA} {p tpos : Pos} {elts : List Expr} {kk : Nat} (hK : X.K = K) (hg : Gl X "enumerate") (hm : X.mg "enumerate" = none) (ha : PA X [e] t) (hs : starEach [e] X.env = [(false, eval e X.env)] := by rfl) :
    PI X (.Tuple elts kk tpos) (.Call (.Name "enumerate" p) [e] [] pos) (iEnum K t) := by subst hK; exact pi_enum hg hm ha hs
theorem mt_joinK (hK : X.K = K) : MtR X "str.join" (fun x xs H Q => ∃ a p, ∃ ys : List Str, x = .str a ∧ xs = [.ref p] ∧ (SqL K H p (ys.map V.str) ∨ SqT K H p (ys.map V.str)) ∧
      (ys.map (·.length)).sum + ys.length * a.length ≤ 16777216 ∧ Q (.str (Txt.join a ys)) H) := by subst hK; exact mt_join
theorem pe_joinK {o : Expr} {to : TE} {apos : Pos} (hK : X.K = K) (ho : PE X o to) (he : PE X e te) (hs : starEach [e] X.env = [(false, eval e X.env)] := by rfl) (hbase : attributeBase o "join" X.env (eval o X.env) = eval o X.env := by rfl) (hline : (apos.endLine == pos.line) = true := by rfl) :
    PE X (.Call (.Attribute o "join" apos) [e] [] pos) (tM1 (fun x xs H Q => ∃ a p, ∃ ys : List Str, x = .str a ∧ xs = [.ref p] ∧ (SqL K H p (ys.map V.str) ∨ SqT K H p (ys.map V.str)) ∧
      (ys.map (·.length)).sum + ys.length * a.length ≤ 16777216 ∧ Q (.str (Txt.join a ys)) H) to te) := by subst hK; exact pe_join ho he hs hbase hline
theorem mt_indexK (hK : X.K = K) : MtR X "list.index" (rIndex K) := by subst hK; exact mt_index
end
end Ns
namespace Ns
open PySem PySem.Spec PyProof.Rows L2
/-! ### own errors, made without arguments -/
structure ExcC (K : PySem.W.Frag) (mg : Str → Option Value) (x : Str) (C : Addr) : Prop where
  g : mg x = some (.ref C)
  ex : PySem.W.excIn K C He.veBase "ValueError.__new__" = true
  kp : PySem.W.keepIn K (.ref C) = true
  sub : PySem.W.subIn K (.ref C) (.type "BaseException") = some true
  ty : PySem.W.typeIn K (.ref C) = some (.type "type")
def excT (x : Str) : FT := fun K => (He.Fa.glo x).ok K && (He.Fa.exc x).ok K
theorem excC_of {K : PySem.W.Frag} {h : Heap} {mg : Str → Option Value} (X : K.In h) (G : h.Ns mainGlobals mg) {x : Str} (c : excT x K = true) : ExcC K mg x (He.ga K x) := by
  obtain ⟨c1, c2⟩ := He.ba c
  obtain ⟨e1, e2, e3, e4⟩ := He.exc_ok c2
  exact ⟨He.glo_ok X G c1, e1, e2, e3, e4⟩
section
variable {X : Cx} {C : Addr} {bmB : List Value} {B newId initId : String}
theorem pmk_own0 {x : Str} {p pos : Pos} (F : ExcBaseFacts B newId initId bmB) (q : PySem.W.excIn X.K C bmB newId = true) (gC : X.mg x = some (.ref C)) (kC : PySem.W.keepIn X.K (.ref C) = true) (r : Raises X (.ref C)) (hg : Gl X x)
    (hdb : (x == ("__debug__" : Str)) = false := by decide) : PMk X (.Call (.Name x p) [] [] pos) (fun _ H Q => Q (.ref C) none H) := by
  intro pins s σ H Q I h
  refine wpAny_Call_Name_kw (ld_glob I hg gC ?_ hdb)
  refine PySem.W.callWith_K0 I.kIn kC ?_
  show wpAny _ _ (call (.ref C) []) _ _ _
  obtain ⟨bm, N, nm, qn, bs, hdct, sn, sub, ab, col, dd, k0, k1, k2, k3, k5, mN, hC, hN, hni, T⟩ := exc_obj I.kIn q
  refine wpAny_call_exc_subT F T hC hN hni (fun h' e hm => ?_) (by show 0 ≤ sizeLine; omega)
  exact mk_of I hm r h (I.hok.gone hm.new)
end
end Ns

/-! Own layer D: data in the heap, comprehensions that make data of data. -/
namespace Ns
open PySem PySem.Spec PyProof.Rows L2
/-! ### what stays -/
/-- tuples stay -/
def KeepT (H H' : Hp) : Prop := ∀ a xs, H a = some (.tup xs) → H' a = some (.tup xs)
theorem KeepT.refl (H : Hp) : KeepT H H := fun _ _ h => h
theorem KeepT.trans {H H1 H2 : Hp} (x : KeepT H H1) (y : KeepT H1 H2) : KeepT H H2 := fun a xs h => y a xs (x a xs h)
theorem sKt {H H' : Hp} (x : Same H H') : KeepT H H' := fun a xs h => x a _ h
theorem KeepT.lst {H : Hp} {p : Addr} {xs : List V} {o : HO} (h : H p = some (.lst xs)) : KeepT H (upd H p o) := fun a ys e => by
  rw [upd_ne (ne_of e h (by intro z; cases z))]
  exact e
theorem KeepT.dT {H : Hp} {p : Addr} {xs : List (List Key × V)} {o : HO} (h : H p = some (.dT xs)) : KeepT H (upd H p o) := fun a ys e => by
  rw [upd_ne (ne_of e h (by intro z; cases z))]
  exact e
theorem KeepT.dK {H : Hp} {p : Addr} {xs : List (Key × V)} {o : HO} (h : H p = some (.dK xs)) : KeepT H (upd H p o) := fun a ys e => by
  rw [upd_ne (ne_of e h (by intro z; cases z))]
  exact e
theorem KeepT.new {H : Hp} {p : Addr} {o : HO} (h : H p = none) : KeepT H (upd H p o) := fun a ys e => by
  rw [upd_ne (ne_of_none e h)]
  exact e
/-- all stands but what stands at D -/
def SameX (D : Addr) (H H' : Hp) : Prop := ∀ a o, H a = some o → a ≠ D → H' a = some o
theorem SameX.refl (D : Addr) (H : Hp) : SameX D H H := fun _ _ h _ => h
theorem SameX.trans {D : Addr} {H H1 H2 : Hp} (x : SameX D H H1) (y : SameX D H1 H2) : SameX D H H2 := fun a o h n => y a o (x a o h n) n
theorem sX {D : Addr} {H H' : Hp} (x : Same H H') : SameX D H H' := fun a o h _ => x a o h
theorem SameX.put {D : Addr} {o : HO} {H : Hp} : SameX D H (upd H D o) := fun a u h n => by
  rw [upd_ne n]
  exact h
theorem SameX.same {D : Addr} {H H1 H2 : Hp} (n : H D = none) (x : Same H H1) (y : SameX D H1 H2) : Same H H2 := fun a o h => y a o (x a o h) (ne_of_none h n)
/-- a store into an object new since H -/
theorem sPut {p : Addr} {o : HO} {H H1 : Hp} (x : Same H H1) (n : H p = none) : Same H (upd H1 p o) := fun a u h => by
  rw [upd_ne (ne_of_none h n)]
  exact x a u h
theorem sNew {p : Addr} {o : HO} {H H1 : Hp} (x : Same H H1) (n : H1 p = none) : Same H (upd H1 p o) := fun a u h => by
  rw [upd_ne (ne_of_none (x a u h) n)]
  exact x a u h
theorem same_laid {H : Hp} {p : Addr} {o : HO} (h : H p = none) : Same H (upd H p o) := sNew (Same.refl H) h
/-! ### data -/
/-- a representation that stays while tuples stay -/
def PersT {α : Type} (R : Hp → V → α → Prop) : Prop := ∀ H H' v a, KeepT H H' → R H v a → R H' v a
theorem pMono {α : Type} {R : Hp → V → α → Prop} (p : PersT R) {H H' : Hp} (k : KeepT H H') : ∀ {vs : List V} {xs : List α}, Paired (R H) vs xs → Paired (R H') vs xs
  | _, _, .nil => .nil
  | _, _, .cons h t => .cons (p _ _ _ _ k h) (pMono p k t)
theorem pApp {α β : Type} {F : α → β → Prop} : ∀ {as as' : List α} {bs bs' : List β}, Paired F as bs → Paired F as' bs' → Paired F (as ++ as') (bs ++ bs')
  | _, _, _, _, .nil, h => h
  | _, _, _, _, .cons h t, h' => .cons h (pApp t h')
theorem pAt {α β : Type} {F : α → β → Prop} : ∀ {as : List α} {bs : List β} {i : Nat} {b : β}, Paired F as bs → bs[i]? = some b → ∃ a, as[i]? = some a ∧ F a b
  | _, _, _, _, .nil, h => by simp at h
  | _, _, 0, _, .cons h t, e => by simp at e; exact ⟨_, rfl, e ▸ h⟩
  | _, _, i + 1, _, .cons h t, e => by
    obtain ⟨a, h1, h2⟩ := pAt (i := i) t (by simpa using e)
    exact ⟨a, by simpa using h1, h2⟩
theorem pAtL {α β : Type} {F : α → β → Prop} : ∀ {as : List α} {bs : List β} {i : Nat} {a : α}, Paired F as bs → as[i]? = some a → ∃ b, bs[i]? = some b ∧ F a b
  | _, _, _, _, .nil, h => by simp at h
  | _, _, 0, _, .cons h t, e => by simp at e; exact ⟨_, rfl, e ▸ h⟩
  | _, _, i + 1, _, .cons h t, e => by
    obtain ⟨a, h1, h2⟩ := pAtL (i := i) t (by simpa using e)
    exact ⟨a, by simpa using h1, h2⟩
theorem pMem {α β : Type} {F : α → β → Prop} {as : List α} {bs : List β} (p : Paired F as bs) {b : β} (h : b ∈ bs) : ∃ a, a ∈ as ∧ F a b := by
  obtain ⟨i, hi⟩ := List.mem_iff_getElem?.mp h
  obtain ⟨a, h1, h2⟩ := pAt p hi
  exact ⟨a, List.mem_of_getElem? h1, h2⟩
theorem pMemL {α β : Type} {F : α → β → Prop} {as : List α} {bs : List β} (p : Paired F as bs) {a : α} (h : a ∈ as) : ∃ b, b ∈ bs ∧ F a b := by
  obtain ⟨i, hi⟩ := List.mem_iff_getElem?.mp h
  obtain ⟨a, h1, h2⟩ := pAtL p hi
  exact ⟨a, List.mem_of_getElem? h1, h2⟩
theorem pMapL {α β γ : Type} {F : α → β → Prop} (f : γ → α) (g : γ → β) : ∀ (l : List γ), (∀ c ∈ l, F (f c) (g c)) → Paired F (l.map f) (l.map g)
  | [], _ => .nil
  | c :: l, h => .cons (h c (List.mem_cons_self ..)) (pMapL f g l fun d hd => h d (List.mem_cons_of_mem _ hd))
/-- a point -/
def pI (x : Nat) : V := .int (x : Int)
def Pt (_ : Hp) (v : V) (x : Nat) : Prop := v = pI x
theorem persPt : PersT Pt := fun _ _ _ _ _ h => h
/-- an int -/
def Nm (_ : Hp) (v : V) (z : Int) : Prop := v = .int z
theorem persNm : PersT Nm := fun _ _ _ _ _ h => h
theorem pairedNm (H : Hp) : ∀ ns : List Int, Paired (Nm H) (ns.map V.int) ns
  | [] => .nil
  | _ :: ns => .cons rfl (pairedNm H ns)
theorem pairedNm_eq {H : Hp} : ∀ {vs : List V} {ns : List Int}, Paired (Nm H) vs ns → vs = ns.map V.int
  | _, _, .nil => rfl
  | _, _, .cons h t => by rw [show _ = V.int _ from h, pairedNm_eq t]; rfl
/-- a pair of points -/
def Pr (H : Hp) (v : V) (x : Nat × Nat) : Prop := ∃ t, v = .ref t ∧ H t = some (.tup [pI x.1, pI x.2])
theorem persPr : PersT Pr := fun _ _ _ _ k ⟨t, e, h⟩ => ⟨t, e, k _ _ h⟩
theorem prMk {H : Hp} {t : Addr} {a b : Int} {x : Nat × Nat} (h : H t = some (.tup [.int a, .int b])) (ha : a = x.1) (hb : b = x.2) : Pr H (.ref t) x := by
  subst ha hb
  exact ⟨t, rfl, h⟩
/-- a tuple of things -/
def Tup {α : Type} (R : Hp → V → α → Prop) (H : Hp) (v : V) (xs : List α) : Prop := ∃ t vs, v = .ref t ∧ H t = some (.tup vs) ∧ Paired (R H) vs xs
theorem persTup {α : Type} {R : Hp → V → α → Prop} (p : PersT R) : PersT (Tup R) := fun _ _ _ _ k ⟨t, vs, e, h, q⟩ => ⟨t, vs, e, k _ _ h, pMono p k q⟩
/-- a list of things -/
def Lst {α : Type} (R : Hp → V → α → Prop) (H : Hp) (v : V) (xs : List α) : Prop := ∃ t vs, v = .ref t ∧ H t = some (.lst vs) ∧ Paired (R H) vs xs
theorem Lst.same {α : Type} {R : Hp → V → α → Prop} (p : PersT R) {H H' : Hp} {v : V} {xs : List α} (k : Same H H') : Lst R H v xs → Lst R H' v xs := fun ⟨t, vs, e, h, q⟩ => ⟨t, vs, e, k _ _ h, pMono p (sKt k) q⟩
/-- a net -/
def Net (H : Hp) (v : V) (n : Nat) (ties : List (Nat × Nat)) : Prop := ∃ t u, v = .ref t ∧ H t = some (.tup [pI n, u]) ∧ Tup Pr H u ties
theorem Net.keep {H H' : Hp} {v : V} {n : Nat} {ties : List (Nat × Nat)} (x : Net H v n ties) (k : KeepT H H') : Net H' v n ties := by
  obtain ⟨t, u, e, h, q⟩ := x
  exact ⟨t, u, e, k _ _ h, persTup persPr _ _ _ _ k q⟩
/-! ### comprehensions: the element's reading is shown for any end -/
section
variable {α β : Type} {g : TG} {tt : TT} {te : TE} {vs : List Nat} {σ : L2.St} {H1 : Hp} {D : Addr} {Qd : Hp → Prop}
theorem filterMap_take_succ {f : α → Option β} {l : List α} {i : Nat} {x : α} (h : l[i]? = some x) : (l.take (i + 1)).filterMap f = (l.take i).filterMap f ++ (f x).toList := by
  have e : l.take (i + 1) = l.take i ++ [x] := by rw [List.take_add_one, h] <;> rfl
  rw [e, List.filterMap_append]
  cases hx : f x <;> simp [hx]
/-- over a range: f says what is made of the i-th number, if anything -/
theorem comp_range {lo : Int} {n : Nat} (hn : n < sizeLine) (f : Nat → Option β) {R : Hp → V → β → Prop} (hR : PersT R) (hD : H1 D = none)
    (hs : ∀ (i : Nat) (H : Hp) (Yes : V → Hp → Prop) (No : Hp → Prop), i < n → Same H1 H → (∀ a, f i = some a → ∀ y H4, Same H H4 → R H4 y a → Yes y H4) → (f i = none → ∀ H4, Same H H4 → No H4) →
      g (.int (lo + i)) (wipe σ vs) H fun σ2 H2 => wipe σ2 vs = wipe σ vs ∧ tt σ2 H2 fun b H3 => if b = true then te σ2 H3 Yes else No H3)
    (hd : ∀ H ys, Same H1 H → H D = some (.lst ys) → Paired (R H) ys ((List.range n).filterMap f) → Qd H) :
    ∃ W : Nat → Nat → Hp → Prop, (∃ m, W 0 m (upd H1 D (.lst []))) ∧ ∀ i m H, W i m H →
      ((Itr lo n).stop i H ∧ Qd H) ∨ ((Itr lo n).go i H ∧ ∃ Nx : Hp → Prop, (∀ H', Nx H' → ∃ m', m' < m ∧ W (i + 1) m' H') ∧ ∀ x H', (Itr lo n).yld i H x H' → g x (wipe σ vs) H' fun σ2 H2 => wipe σ2 vs = wipe σ vs ∧ tt σ2 H2 fun b H3 =>
        if b = true then te σ2 H3 fun y H4 => ∃ acc, H4 D = some (.lst acc) ∧ acc.length < sizeLine ∧ Nx (upd H4 D (.lst (acc ++ [y]))) else Nx H3) := by
  have hlen : ∀ i, ((List.range n).take i).length ≤ n := fun i => by rw [List.length_take, List.length_range]; omega
  refine lc_range (lo := lo) (n := n) (fun i H => Same H1 H ∧ ∃ ys, H D = some (.lst ys) ∧ Paired (R H) ys (((List.range n).take i).filterMap f)) ⟨same_laid hD, [], upd_same, by simpa using Paired.nil⟩ ?_ ?_
  · rintro i H hi ⟨sm, ys, hy, pr⟩
    have hat : (List.range n)[i]? = some i := by simp [hi]
    have hl : ys.length < sizeLine := by
      have := pr.length
      have h2 := List.length_filterMap_le f ((List.range n).take i)
      have h3 := hlen i
      omega
    refine hs i H _ _ hi sm (fun a ha y H4 s4 r4 => ?_) (fun ha H4 s4 => ?_)
    · refine ⟨ys, s4 _ _ hy, hl, sPut (sm.trans s4) hD, ys ++ [y], upd_same, ?_⟩
      rw [filterMap_take_succ hat, ha]
      have k : KeepT H4 (upd H4 D (.lst (ys ++ [y]))) := KeepT.lst (s4 _ _ hy)
      exact pApp (pMono hR (KeepT.trans (sKt s4) k) pr) (.cons (hR _ _ _ _ k r4) .nil)
    · refine ⟨sm.trans s4, ys, s4 _ _ hy, ?_⟩
      rw [filterMap_take_succ hat, ha]
      simpa using pMono hR (sKt s4) pr
  · rintro H ⟨sm, ys, hy, pr⟩
    rw [List.take_of_length_le (by simp)] at pr
    exact hd H ys sm hy pr
/-- over a list of data -/
theorem comp_list {K : PySem.W.Frag} {a : Addr} {us : List V} {ds : List α} {Rs : Hp → V → α → Prop} (hRs : PersT Rs) (f : α → Option β) {R : Hp → V → β → Prop} (hR : PersT R) (hD : H1 D = none)
    (hl : SqL K H1 a us) (hn : us.length < sizeLine) (hp : Paired (Rs H1) us ds)
    (hs : ∀ (d : α) (x : V) (H : Hp) (Yes : V → Hp → Prop) (No : Hp → Prop), d ∈ ds → Rs H x d → Same H1 H → (∀ a, f d = some a → ∀ y H4, Same H H4 → R H4 y a → Yes y H4) → (f d = none → ∀ H4, Same H H4 → No H4) →
      g x (wipe σ vs) H fun σ2 H2 => wipe σ2 vs = wipe σ vs ∧ tt σ2 H2 fun b H3 => if b = true then te σ2 H3 Yes else No H3)
    (hd : ∀ H ys, Same H1 H → H D = some (.lst ys) → Paired (R H) ys (ds.filterMap f) → Qd H) :
    ∃ W : Nat → Nat → Hp → Prop, (∃ m, W 0 m (upd H1 D (.lst []))) ∧ ∀ i m H, W i m H →
      ((Itl K a).stop i H ∧ Qd H) ∨ ((Itl K a).go i H ∧ ∃ Nx : Hp → Prop, (∀ H', Nx H' → ∃ m', m' < m ∧ W (i + 1) m' H') ∧ ∀ x H', (Itl K a).yld i H x H' → g x (wipe σ vs) H' fun σ2 H2 => wipe σ2 vs = wipe σ vs ∧ tt σ2 H2 fun b H3 =>
        if b = true then te σ2 H3 fun y H4 => ∃ acc, H4 D = some (.lst acc) ∧ acc.length < sizeLine ∧ Nx (upd H4 D (.lst (acc ++ [y]))) else Nx H3) := by
  have hlen := hp.length
  refine lc_list (K := K) (a := a) (xs := us) (fun i H => Same H1 H ∧ ∃ ys, H D = some (.lst ys) ∧ Paired (R H) ys ((ds.take i).filterMap f)) ⟨same_laid hD, [], upd_same, by simpa using Paired.nil⟩ (fun i H _ p => p.1.seq hl) ?_ ?_
  · rintro i x H hi ⟨sm, ys, hy, pr⟩
    obtain ⟨d, hat, hrs⟩ := pAtL hp hi
    have hll : ys.length < sizeLine := by
      have := pr.length
      have h2 := List.length_filterMap_le f (ds.take i)
      have h3 : (ds.take i).length ≤ ds.length := by rw [List.length_take]; omega
      omega
    refine hs d x H _ _ (List.mem_of_getElem? hat) (hRs _ _ _ _ (sKt sm) hrs) sm (fun a ha y H4 s4 r4 => ?_) (fun ha H4 s4 => ?_)
    · refine ⟨ys, s4 _ _ hy, hll, sPut (sm.trans s4) hD, ys ++ [y], upd_same, ?_⟩
      rw [filterMap_take_succ hat, ha]
      have k : KeepT H4 (upd H4 D (.lst (ys ++ [y]))) := KeepT.lst (s4 _ _ hy)
      exact pApp (pMono hR (KeepT.trans (sKt s4) k) pr) (.cons (hR _ _ _ _ k r4) .nil)
    · refine ⟨sm.trans s4, ys, s4 _ _ hy, ?_⟩
      rw [filterMap_take_succ hat, ha]
      simpa using pMono hR (sKt s4) pr
  · rintro H ⟨sm, ys, hy, pr⟩
    rw [hlen, List.take_of_length_le (Nat.le_refl _)] at pr
    exact hd H ys sm hy pr
/-- over a tuple of data -/
theorem comp_tup {K : PySem.W.Frag} {a : Addr} {us : List V} {ds : List α} {Rs : Hp → V → α → Prop} (hRs : PersT Rs) (f : α → Option β) {R : Hp → V → β → Prop} (hR : PersT R) (hD : H1 D = none)
    (hl : H1 a = some (.tup us)) (hn : us.length < sizeLine) (hp : Paired (Rs H1) us ds)
    (hs : ∀ (d : α) (x : V) (H : Hp) (Yes : V → Hp → Prop) (No : Hp → Prop), d ∈ ds → Rs H x d → Same H1 H → (∀ a, f d = some a → ∀ y H4, Same H H4 → R H4 y a → Yes y H4) → (f d = none → ∀ H4, Same H H4 → No H4) →
      g x (wipe σ vs) H fun σ2 H2 => wipe σ2 vs = wipe σ vs ∧ tt σ2 H2 fun b H3 => if b = true then te σ2 H3 Yes else No H3)
    (hd : ∀ H ys, Same H1 H → H D = some (.lst ys) → Paired (R H) ys (ds.filterMap f) → Qd H) :
    ∃ W : Nat → Nat → Hp → Prop, (∃ m, W 0 m (upd H1 D (.lst []))) ∧ ∀ i m H, W i m H →
      ((Itt K a).stop i H ∧ Qd H) ∨ ((Itt K a).go i H ∧ ∃ Nx : Hp → Prop, (∀ H', Nx H' → ∃ m', m' < m ∧ W (i + 1) m' H') ∧ ∀ x H', (Itt K a).yld i H x H' → g x (wipe σ vs) H' fun σ2 H2 => wipe σ2 vs = wipe σ vs ∧ tt σ2 H2 fun b H3 =>
        if b = true then te σ2 H3 fun y H4 => ∃ acc, H4 D = some (.lst acc) ∧ acc.length < sizeLine ∧ Nx (upd H4 D (.lst (acc ++ [y]))) else Nx H3) := by
  have hlen := hp.length
  refine lc_tup (K := K) (a := a) (xs := us) (fun i H => Same H1 H ∧ ∃ ys, H D = some (.lst ys) ∧ Paired (R H) ys ((ds.take i).filterMap f)) ⟨same_laid hD, [], upd_same, by simpa using Paired.nil⟩ (fun i H _ p => SqT.of (p.1 _ _ hl)) ?_ ?_
  · rintro i x H hi ⟨sm, ys, hy, pr⟩
    obtain ⟨d, hat, hrs⟩ := pAtL hp hi
    have hll : ys.length < sizeLine := by
      have := pr.length
      have h2 := List.length_filterMap_le f (ds.take i)
      have h3 : (ds.take i).length ≤ ds.length := by rw [List.length_take]; omega
      omega
    refine hs d x H _ _ (List.mem_of_getElem? hat) (hRs _ _ _ _ (sKt sm) hrs) sm (fun a ha y H4 s4 r4 => ?_) (fun ha H4 s4 => ?_)
    · refine ⟨ys, s4 _ _ hy, hll, sPut (sm.trans s4) hD, ys ++ [y], upd_same, ?_⟩
      rw [filterMap_take_succ hat, ha]
      have k : KeepT H4 (upd H4 D (.lst (ys ++ [y]))) := KeepT.lst (s4 _ _ hy)
      exact pApp (pMono hR (KeepT.trans (sKt s4) k) pr) (.cons (hR _ _ _ _ k r4) .nil)
    · refine ⟨sm.trans s4, ys, s4 _ _ hy, ?_⟩
      rw [filterMap_take_succ hat, ha]
      simpa using pMono hR (sKt s4) pr
  · rintro H ⟨sm, ys, hy, pr⟩
    rw [hlen, List.take_of_length_le (Nat.le_refl _)] at pr
    exact hd H ys sm hy pr
end
/-! ### the pairs of points, in order -/
def rowP (n x : Nat) : List (Nat × Nat) := (List.range (n - (x + 1))).map fun k => (x, x + 1 + k)
def allPairs (n : Nat) : List (Nat × Nat) := (List.range n).flatMap (rowP n)
theorem mem_rowP {n x : Nat} {p : Nat × Nat} : p ∈ rowP n x ↔ p.1 = x ∧ x < p.2 ∧ p.2 < n := by
  unfold rowP
  rw [List.mem_map]
  constructor
  · rintro ⟨k, hk, rfl⟩
    have := List.mem_range.mp hk
    exact ⟨rfl, by show x < x + 1 + k; omega, by show x + 1 + k < n; omega⟩
  · rintro ⟨h1, h2, h3⟩
    refine ⟨p.2 - (x + 1), List.mem_range.mpr (by omega), ?_⟩
    rw [← h1]
    exact Prod.ext rfl (by show p.1 + 1 + (p.2 - (p.1 + 1)) = p.2; omega)
theorem mem_allPairs {n : Nat} {p : Nat × Nat} : p ∈ allPairs n ↔ p.1 < p.2 ∧ p.2 < n := by
  unfold allPairs
  rw [List.mem_flatMap]
  constructor
  · rintro ⟨x, hx, hp⟩
    obtain ⟨h1, h2, h3⟩ := mem_rowP.mp hp
    exact ⟨by omega, h3⟩
  · rintro ⟨h1, h2⟩
    exact ⟨p.1, List.mem_range.mpr (by omega), mem_rowP.mpr ⟨rfl, h1, h2⟩⟩
theorem rowP_len (n x : Nat) : (rowP n x).length ≤ n := by
  unfold rowP
  rw [List.length_map, List.length_range]
  omega
theorem flat_len {α β : Type} (f : α → List β) (n : Nat) (h : ∀ x, (f x).length ≤ n) : ∀ l : List α, (l.flatMap f).length ≤ l.length * n
  | [] => by simp
  | x :: l => by
    rw [List.flatMap_cons, List.length_append, List.length_cons, Nat.add_mul, Nat.one_mul]
    have := flat_len f n h l
    have := h x
    omega
theorem allPairs_len (n : Nat) : (allPairs n).length ≤ n * n := by
  have := flat_len (rowP n) n (rowP_len n) (List.range n)
  rwa [List.length_range] at this
/-- the order of pairs -/
def ltP (p q : Nat × Nat) : Prop := p.1 < q.1 ∨ p.1 = q.1 ∧ p.2 < q.2
instance (p q : Nat × Nat) : Decidable (ltP p q) := by unfold ltP; infer_instance
theorem allPairs_sorted (n : Nat) : (allPairs n).Pairwise ltP := by
  unfold allPairs
  rw [List.pairwise_flatMap]
  constructor
  · intro x _
    unfold rowP
    rw [List.pairwise_map]
    exact List.Pairwise.imp (fun {a b} h => .inr ⟨rfl, by show x + 1 + a < x + 1 + b; omega⟩) List.pairwise_lt_range
  · refine List.Pairwise.imp (fun {a b} h p hp q hq => ?_) List.pairwise_lt_range
    have h1 := mem_rowP.mp hp
    have h2 := mem_rowP.mp hq
    exact .inl (by omega)
/-- what the program takes for a net's points and ties -/
def Good (n : Nat) (ties : List (Nat × Nat)) : Prop := (∀ p ∈ ties, p.1 < p.2 ∧ p.2 < n) ∧ ties.Pairwise ltP
theorem Good.filter {n : Nat} (f : Nat × Nat → Bool) : Good n ((allPairs n).filter f) :=
  ⟨fun p hp => mem_allPairs.mp ((List.mem_filter.mp hp).1), (allPairs_sorted n).filter f⟩
theorem sizeBig {n : Nat} (h : n ≤ 16000000) : n < sizeLine := Nat.lt_of_le_of_lt h (by rw [sizeLine_eq]; decide)
/-! ### dicts whose keys are pairs of points -/
abbrev DT := List (List Key × V)
def key (x : Nat × Nat) : List Key := [.inl (x.1 : Int), .inl (x.2 : Int)]
theorem key_inj {x y : Nat × Nat} (h : key x = key y) : x = y := by
  unfold key at h
  simp only [List.cons.injEq, Sum.inl.injEq] at h
  exact Prod.ext (by have := h.1; omega) (by have := h.2.1; omega)
def hasP (kvs : DT) (x : Nat × Nat) : Bool := (valV kvs (key x)).isSome
theorem dgetP {H : Hp} {d t : Addr} {kvs : DT} {a b : Int} {x : Nat × Nat} (h : H d = some (.dT kvs)) (ht : H t = some (.tup [.int a, .int b])) (ha : a = x.1) (hb : b = x.2) : DGet H d (.ref t) (valV kvs (key x)) := by
  subst ha hb
  exact DGet.t h ht
theorem dputP {H : Hp} {d t : Addr} {kvs : DT} {a b : Int} {x : Nat × Nat} {v : V} (h : H d = some (.dT kvs)) (ht : H t = some (.tup [.int a, .int b])) (ha : a = x.1) (hb : b = x.2) (hl : kvs.length < sizeLine) :
    DPut H d (.ref t) v (upd H d (.dT (putK kvs (key x) v))) := by
  subst ha hb
  exact DPut.t h ht hl
theorem hasP_put (kvs : DT) (x y : Nat × Nat) (v : V) : hasP (putK kvs (key x) v) y = (decide (y = x) || hasP kvs y) := by
  unfold hasP
  rw [valV_put]
  by_cases h : y = x
  · subst h
    simp
  · rw [if_neg (fun e => h (key_inj e))]
    simp [h]
/-! ### bounds of lists -/
theorem sub_len {α : Type} [DecidableEq α] : ∀ (l m : List α), l.Nodup → (∀ x ∈ l, x ∈ m) → l.length ≤ m.length
  | [], m, _, _ => Nat.zero_le _
  | x :: l, m, h, hs => by
    have hx : x ∈ m := hs x (List.mem_cons_self ..)
    have h1 := List.nodup_cons.mp h
    have h2 := sub_len l (m.erase x) h1.2 fun y hy => (List.mem_erase_of_ne (fun e => h1.1 (by rw [← e]; exact hy))).mpr (hs y (List.mem_cons_of_mem _ hy))
    rw [List.length_erase_of_mem hx] at h2
    have := List.length_pos_of_mem hx
    rw [List.length_cons]
    omega
def square (n : Nat) : List (Nat × Nat) := (List.range n).flatMap fun x => (List.range n).map fun y => (x, y)
theorem mem_square {n : Nat} {p : Nat × Nat} (h : p.1 < n ∧ p.2 < n) : p ∈ square n := by
  unfold square
  rw [List.mem_flatMap]
  exact ⟨p.1, List.mem_range.mpr h.1, List.mem_map.mpr ⟨p.2, List.mem_range.mpr h.2, rfl⟩⟩
theorem square_len (n : Nat) : (square n).length ≤ n * n := by
  have := flat_len (fun x : Nat => (List.range n).map fun y => (x, y)) n (fun x => by simp) (List.range n)
  rwa [List.length_range] at this
/-- the keys are pairs of points, each once -/
def KeysAre (n : Nat) (kvs : DT) (ks : List (Nat × Nat)) : Prop := kvs.map (·.1) = ks.map key ∧ (∀ k ∈ ks, k.1 < n ∧ k.2 < n) ∧ ks.Nodup
def KeysIn (n : Nat) (kvs : DT) : Prop := ∃ ks, KeysAre n kvs ks
theorem KeysIn.nil {n : Nat} : KeysIn n [] := ⟨[], rfl, by simp, List.nodup_nil⟩
theorem KeysAre.len {n : Nat} {kvs : DT} {ks : List (Nat × Nat)} (h : KeysAre n kvs ks) : kvs.length ≤ n * n := by
  obtain ⟨h1, h2, h3⟩ := h
  have e := congrArg List.length h1
  rw [List.length_map, List.length_map] at e
  have := sub_len ks (square n) h3 fun x hx => mem_square (h2 x hx)
  have := square_len n
  omega
theorem KeysIn.len {n : Nat} {kvs : DT} (h : KeysIn n kvs) : kvs.length ≤ n * n := h.elim fun _ x => x.len
theorem nodup_key : ∀ {ks : List (Nat × Nat)}, ks.Nodup → (ks.map key).Nodup
  | [], _ => List.nodup_nil
  | k :: ks, h => by
    have h1 := List.nodup_cons.mp h
    rw [List.map_cons, List.nodup_cons]
    refine ⟨fun hm => ?_, nodup_key h1.2⟩
    obtain ⟨k', hk, e⟩ := List.mem_map.mp hm
    exact h1.1 (key_inj e ▸ hk)
theorem KeysAre.put {n : Nat} {kvs : DT} {ks : List (Nat × Nat)} {x : Nat × Nat} {v : V} (h : KeysAre n kvs ks) (hx : x.1 < n ∧ x.2 < n) : KeysAre n (putK kvs (key x) v) (if x ∈ ks then ks else ks ++ [x]) := by
  obtain ⟨h1, h2, h3⟩ := h
  by_cases hm : x ∈ ks
  · rw [if_pos hm]
    refine ⟨?_, h2, h3⟩
    have ha : (kvs.any fun kv => decide (kv.1 = key x)) = true := by
      have : key x ∈ kvs.map (·.1) := by rw [h1]; exact List.mem_map.mpr ⟨x, hm, rfl⟩
      obtain ⟨kv, hkv, e⟩ := List.mem_map.mp this
      exact List.any_eq_true.mpr ⟨kv, hkv, decide_eq_true e⟩
    unfold putK
    rw [if_pos ha, List.map_map, ← h1]
    refine List.map_congr_left fun kv _ => ?_
    show (if kv.1 = key x then (kv.1, v) else kv).1 = kv.1
    split <;> rfl
  · rw [if_neg hm]
    have hn : valV kvs (key x) = none := by
      have ha : (kvs.any fun kv => decide (kv.1 = key x)) = false := by
        rw [← Bool.not_eq_true]
        intro ha
        obtain ⟨kv, hkv, e⟩ := List.any_eq_true.mp ha
        have h4 : kv.1 ∈ kvs.map (·.1) := List.mem_map.mpr ⟨kv, hkv, rfl⟩
        rw [h1, of_decide_eq_true e] at h4
        obtain ⟨k', hk, e2⟩ := List.mem_map.mp h4
        exact hm (key_inj e2 ▸ hk)
      rw [valV_any] at ha
      simpa using ha
    rw [putK_new v hn]
    refine ⟨by rw [List.map_append, List.map_append, h1]; rfl, fun k hk => ?_, ?_⟩
    · rcases List.mem_append.mp hk with hk | hk
      · exact h2 k hk
      · rw [List.mem_singleton.mp hk]
        exact hx
    · rw [List.nodup_append]
      exact ⟨h3, by simp, fun a ha b hb e => hm (by rw [List.mem_singleton] at hb; rw [← hb, ← e]; exact ha)⟩
theorem KeysIn.put {n : Nat} {kvs : DT} {x : Nat × Nat} {v : V} (h : KeysIn n kvs) (hx : x.1 < n ∧ x.2 < n) : KeysIn n (putK kvs (key x) v) := h.elim fun _ y => ⟨_, y.put hx⟩
theorem KeysIn.drop {n : Nat} {kvs : DT} {k : List Key} (h : KeysIn n kvs) : KeysIn n (dropK kvs k) := by
  obtain ⟨ks, h1, h2, h3⟩ := h
  refine ⟨ks.filter fun x => decide (key x ≠ k), ?_, fun x hx => h2 x (List.mem_filter.mp hx).1, h3.filter _⟩
  unfold dropK
  have : ∀ (kvs : DT) (ks : List (Nat × Nat)), kvs.map (·.1) = ks.map key → (kvs.filter fun kv => decide (kv.1 ≠ k)).map (·.1) = (ks.filter fun x => decide (key x ≠ k)).map key := by
    intro kvs
    induction kvs with
    | nil =>
      intro ks e
      cases ks with
      | nil => rfl
      | cons a b => simp at e
    | cons kv kvs ih =>
      intro ks e
      cases ks with
      | nil => simp at e
      | cons a ks =>
        simp only [List.map_cons, List.cons.injEq] at e
        rw [List.filter_cons, List.filter_cons, e.1]
        split
        · rw [List.map_cons, List.map_cons, ih ks e.2, e.1]
        · exact ih ks e.2
  exact this kvs ks h1
/-- a pair of whole numbers -/
def PrZ (H : Hp) (v : V) (x : Int × Int) : Prop := ∃ t, v = .ref t ∧ H t = some (.tup [.int x.1, .int x.2])
theorem persPrZ : PersT PrZ := fun _ _ _ _ k ⟨t, e, h⟩ => ⟨t, e, k _ _ h⟩
theorem pairedPt_eq {H : Hp} : ∀ {vs : List V} {xs : List Nat}, Paired (Pt H) vs xs → vs = xs.map pI
  | _, _, .nil => rfl
  | _, _, .cons h t => by rw [show _ = pI _ from h, pairedPt_eq t]; rfl
theorem pairedPt (H : Hp) : ∀ xs : List Nat, Paired (Pt H) (xs.map pI) xs
  | [] => .nil
  | _ :: xs => .cons rfl (pairedPt H xs)
theorem sxKt {d : Addr} {H H' : Hp} {kvs : DT} (x : SameX d H H') (h : H d = some (.dT kvs)) : KeepT H H' := fun a xs e => x a _ e (ne_of e h (by intro z; cases z))
theorem sxLt {d : Addr} {H H' : Hp} {ys : List V} (x : SameX d H H') (h : H d = some (.lst ys)) : KeepT H H' := fun a xs e => x a _ e (ne_of e h (by intro z; cases z))
theorem sxNew {d p : Addr} {H H' : Hp} {o : HO} (x : SameX d H H') (h : H' p = none) : SameX d H (upd H' p o) := fun a u e n => by
  have e2 := x a u e n
  rw [upd_ne (ne_of_none e2 h)]
  exact e2
theorem sxPut {d : Addr} {H H' : Hp} {o : HO} (x : SameX d H H') : SameX d H (upd H' d o) := x.trans SameX.put
/-- one more key -/
theorem put_step {n : Nat} {d t : Addr} {H H3 : Hp} {kvs : DT} {x : Nat × Nat} {v : V} {o : HO} (sx : SameX d H H3) (hd : H3 d = some (.dT kvs)) (hk : KeysIn n kvs) (ht : H3 t = none) (hx : x.1 < n ∧ x.2 < n) :
    SameX d H (upd (upd H3 t o) d (.dT (putK kvs (key x) v))) ∧ ∃ kvs', (upd (upd H3 t o) d (.dT (putK kvs (key x) v))) d = some (.dT kvs') ∧ KeysIn n kvs' :=
  ⟨sxPut (sxNew sx ht), _, upd_same, hk.put hx⟩
theorem keys_small {n : Nat} {kvs : DT} (h : KeysIn n kvs) (hn : n ≤ 1000) : kvs.length < sizeLine := by
  have h1 := h.len
  have h2 : n * n ≤ 1000 * 1000 := Nat.mul_le_mul hn hn
  exact sizeBig (by omega)
end Ns

/-! Own layer S: rules for dicts whose keys are tuples: pop of one that is there, sorted, dict(pairs), dict(d), len. -/
namespace Ns
open PySem PySem.Spec PyProof.Rows L2
def adr : Value → Addr
  | .ref a => a
  | _ => 0
/-- the pair of ints that stands at a place -/
def pkI (H : Hp) (t : Addr) : Int × Int := match H t with
  | some (.tup [.int i, .int j]) => (i, j)
  | _ => (0, 0)
theorem pkI_of {H : Hp} {t : Addr} {i j : Int} (h : H t = some (.tup [.int i, .int j])) : pkI H t = (i, j) := by unfold pkI; rw [h]
def pk (H : Hp) (t : Addr) : Nat × Nat := ((pkI H t).1.toNat, (pkI H t).2.toNat)
theorem pk_of {H : Hp} {t : Addr} {x : Nat × Nat} (h : H t = some (.tup [pI x.1, pI x.2])) : pk H t = x := by
  unfold pk
  rw [pkI_of h]
  exact Prod.ext rfl rfl
theorem keys_at {H : Hp} : ∀ {kvs : DT} {xs : List (List Key × Addr × Value)} {ks : List (Nat × Nat)}, KT H kvs xs → kvs.map (·.1) = ks.map key → Paired (fun (x : List Key × Addr × Value) k => H x.2.1 = some (.tup [pI k.1, pI k.2])) xs ks
  | [], [], [], .nil, _ => .nil
  | [], [], _ :: _, .nil, h => by simp at h
  | _ :: _, _ :: _, [], .cons _ _, h => by simp at h
  | kv :: kvs, x :: xs, k :: ks, .cons p t, h => by
    simp only [List.map_cons, List.cons.injEq] at h
    refine .cons ?_ (keys_at t h.2)
    have e := p.2.1
    rw [h.1] at e
    exact e
section
variable {X : Cx}
/-- sorted(d), the keys being pairs of points -/
def rSortedKT : List V → Hp → VK → Prop := fun vs H Q => ∃ (d : Addr) (kvs : DT) (ks : List (Nat × Nat)), vs = [V.ref d] ∧ Rd H d (.dT kvs) ∧ kvs.map (·.1) = ks.map key ∧
  ∀ (bs : List Addr) (ys : List (Nat × Nat)) (p : Addr), ys.Perm ks → ys.Pairwise (fun a b => ¬ ltP b a) → Paired (Pr H) (bs.map V.ref) ys → H p = none → Q (.ref p) (upd H p (.lst (bs.map V.ref)))
theorem cr_sortedKT (hc : X.calm = true) : CallR X (.builtin "sorted") rSortedKT := by
  intro pins s σ H vs us Q I r h
  obtain ⟨d, kvs, ks, rfl, hd, hks, q⟩ := h
  obtain ⟨u, rfl, rx⟩ := vals1 r
  cases rx
  obtain ⟨z, hs, xs, pr, o, es, ep, ho, hx, hdt, he, hn⟩ := (show ObjOk X.prog X.w H s.heap d (.dT kvs) from hd.ok I.hok)
  have l1 : es.size = xs.length := size_of_entries he
  have l2 : kvs.length = xs.length := Paired.length pr
  have hat := keys_at pr hks
  refine Calls.call_function_entry PyProof.Rows.kind_sorted PyProof.Rows.plain_sorted PyProof.Rows.entry_sorted (PyProof.Rows.args_sorted1 _) ?_
  unfold Builtin.«sorted»
  refine wpAny_bind (m := checkCount "sorted" 1 1 _) (wpAny_pure ?_)
  refine wpAny_bind (PySem.W.kdu_collect (A := X.A.in1) (kdl_raw hs hx hdt) (I.ok.hd hc) ho (by omega) fun h' tk acc hk it => ?_)
  have ea : acc.toList = xs.map fun x => Value.ref x.2.1 := by
    have hl : acc.toList.length = xs.length := by rw [Array.length_toList, it.1]; exact l1
    apply List.ext_getElem?
    intro j
    rw [List.getElem?_map]
    cases hj : acc.toList[j]? with
    | none =>
      have h1 := List.getElem?_eq_none_iff.mp hj
      rw [hl] at h1
      rw [List.getElem?_eq_none_iff.mpr h1] <;> rfl
    | some v =>
      obtain ⟨en, h1, h2⟩ := it.2 j v (by rw [← Array.getElem?_toList]; exact hj)
      have h3 : es.toList[j]? = some en := by rw [Array.getElem?_toList]; exact h1
      rw [he, List.getElem?_map] at h3
      cases hx2 : xs[j]? with
      | none => rw [hx2] at h3; cases h3
      | some x =>
        rw [hx2] at h3
        have h4 : _ = en := Option.some.inj h3
        rw [h2, ← h4]
        rfl
  have I1 : Inv X pins σ H { s with heap := h', toks := tk } := I.kept hk
  have hal : acc.toList.length ≤ sizeLine := by rw [ea, List.length_map, ← l2]; exact z
  refine wpAny_bind (wpAny_newList ?_ hal)
  have hoL : (h'.push (seqObj "list" acc.toList.toArray 0)).get? h'.objs.size = some (seqObj "list" acc.toList.toArray 0) := Heap.get?_push_size _ rfl
  have hxs : ∀ v ∈ acc.toList, ∃ (t : Addr) (k : Nat × Nat), v = Value.ref t ∧ H t = some (.tup [pI k.1, pI k.2]) := fun v hv => by
    rw [ea] at hv
    obtain ⟨x, hx1, rfl⟩ := List.mem_map.mp hv
    obtain ⟨k, _, hk2⟩ := pMemL hat hx1
    exact ⟨_, k, rfl, hk2⟩
  have hp : ∀ v ∈ acc.toList, Srt.IsPair (h'.push (seqObj "list" acc.toList.toArray 0)) v (pkI H (adr v)).1 (pkI H (adr v)).2 := fun v hv => by
    obtain ⟨t, k, rfl, ht⟩ := hxs v hv
    obtain ⟨_, its2, r2, o, ho, hc, n, hd⟩ := I1.hok _ _ ht
    obtain ⟨u1, u2, rfl, ri, rj⟩ := vals2 r2
    obtain ⟨t1, rfl⟩ := ri
    obtain ⟨t2, rfl⟩ := rj
    show Srt.IsPair _ _ (pkI H t).1 (pkI H t).2
    rw [pkI_of ht]
    exact ⟨t, o, t1, t2, n, rfl, Heap.get?_push_of_some _ ho, hc, hd⟩
  show wpAny _ _ _ _ _ { s with heap := h'.push (seqObj "list" acc.toList.toArray 0), toks := tk }
  refine wpAny_bind (wpAny_holding (wpAny_call_entry PyProof.Rows.slot_list_sort ⟨_, hoL, rfl⟩ PyProof.Rows.entry_list_sort
    (SrtO.list_sort_ord (s := { s with heap := h'.push (seqObj "list" acc.toList.toArray 0), toks := tk }) (SrtO.swo_lex fun u => pkI H (adr u)) hoL hal (fun h2 => SrtO.pairs_sortableO (by omega) hp fun o e => ?_) fun out h1 h2 => ⟨_, rfl, ?_⟩) (PyProof.Rows.args_list_sort _)))
  · have e' : some o = some (seqObj "list" acc.toList.toArray 0) := e.symm.trans hoL
    cases e'
    intro c
    exact absurd (Value.type.inj c) (by decide)
  · obtain ⟨e', he'⟩ := PyProof.Rows.sortedHeap_at (vs := acc.toList) (out := out.toArray) hoL
    have hout : ∀ u ∈ out, ∃ (t : Addr) (k : Nat × Nat), u = Value.ref t ∧ H t = some (.tup [pI k.1, pI k.2]) := fun u hu => hxs u (h2.perm.mem_iff.mp hu)
    have ebs : (out.map adr).map Value.ref = out := by
      rw [List.map_map]
      refine (List.map_congr_left fun u hu => ?_).trans (List.map_id _)
      obtain ⟨t, k, rfl, _⟩ := hout u hu
      rfl
    have hpr : Paired (Pr H) ((out.map adr).map V.ref) ((out.map adr).map (pk H)) := pMapL _ _ _ fun t ht => by
      obtain ⟨u, hu, rfl⟩ := List.mem_map.mp ht
      obtain ⟨t, k, rfl, hk2⟩ := hout u hu
      exact ⟨t, rfl, by rw [show adr (.ref t) = t from rfl, pk_of hk2]; exact hk2⟩
    have eks : (acc.toList.map adr).map (pk H) = ks := by
      rw [ea, List.map_map, List.map_map]
      have go : ∀ {xs : List (List Key × Addr × Value)} {ks : List (Nat × Nat)}, Paired (fun (x : List Key × Addr × Value) k => H x.2.1 = some (.tup [pI k.1, pI k.2])) xs ks → xs.map ((pk H ∘ adr) ∘ fun x => Value.ref x.2.1) = ks := fun {xs ks} p => by
        induction p with
        | nil => rfl
        | cons h t ih => rw [List.map_cons, ih, show ((pk H ∘ adr) ∘ fun x : List Key × Addr × Value => Value.ref x.2.1) _ = _ from pk_of h]
      exact go hat
    have hperm : ((out.map adr).map (pk H)).Perm ks := by
      rw [← eks]
      exact (h2.perm.map adr).map (pk H)
    have hsrt : ((out.map adr).map (pk H)).Pairwise (fun a b => ¬ ltP b a) := by
      rw [List.pairwise_map, List.pairwise_map]
      refine List.Pairwise.imp_of_mem (fun {u v} hu hv e => ?_) h1
      obtain ⟨t, k, rfl, hk2⟩ := hout u hu
      obtain ⟨t', k', rfl, hk3⟩ := hout v hv
      have e : SrtO.lexB (pkI H t') (pkI H t) = false := e
      show ¬ ltP (pk H t') (pk H t)
      rw [pk_of hk2, pk_of hk3]
      rw [pkI_of hk2, pkI_of hk3] at e
      have e2 := SrtO.lexB_no.mp e
      unfold ltP
      intro c
      exact e2 (show ((k'.1 : Int) < k.1 ∨ (k'.1 : Int) = k.1 ∧ (k'.2 : Int) < k.2) by omega)
    have hlen : ((out.map adr).map V.ref).length ≤ sizeLine := by
      rw [List.length_map, List.length_map, h2.len]
      exact hal
    have hv : Vals ((out.map adr).map V.ref) out := by
      have := vals_refs (out.map adr)
      rwa [ebs] at this
    refine wpAny_pure ⟨_, rfl, .ref h'.objs.size, upd H h'.objs.size (.lst ((out.map adr).map V.ref)), I1.laid (t' := tk) (fun b u e => ?_) (Nat.le_refl _)
      (show ObjOk X.prog X.w _ _ _ (.lst ((out.map adr).map V.ref)) from ⟨hlen, out, e', hv, he'⟩), rfl, q _ _ _ hperm hsrt hpr (I1.hok.fresh (Nat.le_refl _))⟩
    have hb : b < h'.objs.size := Heap.lt_size e
    rw [PyProof.Rows.sortedHeap_old (Nat.ne_of_lt hb) (by rw [size_push']; exact Nat.lt_succ_of_lt hb)]
    exact Heap.get?_push_of_some _ e
end
end Ns
namespace Ns
open PySem PySem.Spec PyProof.Rows L2
section
variable {prog : Program} {w : World} {K : Type} [DecidableEq K] {knd : KeyKind prog w K}
/-- d.pop(k), k being there -/
theorem meetsPop1 {d b : Addr} {k : List K} (hd : (d == sysModules) = false) :
    MeetsIn prog w (Builtin.«dict.pop» ⟨[.ref d, .ref b], []⟩) (fun A R s => ∃ xs, (tupleKind knd).room A.in1 ∧ (tupleKind knd).is s.heap k b ∧ s.heap.DictOfH (tupleKind knd) d xs ∧ xs.length ≤ sizeLine ∧
      (∃ p, atKey xs k = some p) ∧
      ∀ p, atKey xs k = some p → ∀ h' tk, h'.DictOfH (tupleKind knd) d (DT.dropH xs k) → Heap.SameBut d s.heap h' → R (.ok (.ret p.2)) { s with heap := h', toks := tk }) :=
  .of_wp fun A R s ⟨xs, hu, hkey, hm, hsz, hthere, hsome⟩ => by
    obtain ⟨o, es, ep, ho, hc, hdat, he, his, hn⟩ := id hm
    have hes : es.size = xs.length := size_of_entries he
    have hpart : (keyPart (Value.ref b)).isSome = false := rfl
    unfold Builtin.«dict.pop»
    refine wpAny_bind ?_
    unfold Builtin.Dict.keyAndDefault
    refine wpAny_bind (wpAny_notOrdered_dict hm.typeIs ?_)
    show wpAny _ _ (pure (d, Value.ref b, none)) _ _ s
    refine wpAny_pure ?_
    simp only [hpart, Bool.false_eq_true, if_false]
    refine wpAny_bind (wpAny_dictEntries ho hdat (wpAny_bind (wpAny_pure ?_)))
    cases hem : es.isEmpty with
    | true =>
      have h0 : xs = [] := by
        have z : es.size = 0 := by simpa using hem
        exact List.length_eq_zero_iff.mp (by omega)
      obtain ⟨p, hp⟩ := hthere
      rw [h0] at hp
      cases hp
    | false =>
      simp only [Bool.false_eq_true, if_false]
      refine wpAny_bind (DT.takeH hu hkey hm hsz (fun hno => ?_) fun p e hp hev h' hm' hs' => ?_)
      · obtain ⟨p, hp⟩ := hthere
        rw [hno] at hp
        cases hp
      · simp only [Option.isNone_some, Bool.false_eq_true, if_false]
        exact wpAny_bind (wpAny_letGo (wpAny_pure ⟨e.val, rfl, by rw [hev]; exact hsome p hp h' _ hm' hs'⟩))
end
section
variable {X : Cx}
def rPop1T : V → List V → Hp → VK → Prop := fun x xs H Q => ∃ (a : Addr) (kvs : DT) (k : List Key) (b : Addr) (v : V), x = .ref a ∧ xs = [.ref b] ∧ H a = some (.dT kvs) ∧ H b = some (.tup (k.map kV)) ∧
  valV kvs k = some v ∧ Q v (upd H a (.dT (dropK kvs k)))
theorem mt_pop1T (hu : X.A.units + 1 < cLine) : MtR X "dict.pop" rPop1T := by
  intro pins s σ H x xs v us Q I rx rxs h
  obtain ⟨a, kvs, k, b, v0, rfl, rfl, ha, hb, hv, q⟩ := h
  cases rx
  obtain ⟨u1, rfl, r1⟩ := vals1 rxs
  cases r1
  obtain ⟨z, hd, xs', rel, dd⟩ := dt_of I.hok ha
  have hz : xs'.length ≤ sizeLine := by rw [← Paired.length rel]; exact z
  have r := rel.val k
  rw [hv] at r
  obtain ⟨p0, hp0, rv0⟩ : ∃ p0, atKey xs' k = some p0 ∧ RelV v0 p0.2 := by
    cases hp : atKey xs' k with
    | none => rw [hp] at r; exact (show False from r).elim
    | some p0 => rw [hp] at r; exact ⟨p0, rfl, r⟩
  refine call_meetsIn PySem.F.slot_dict_pop dd.typeIs PySem.F.entry_dict_pop (PySem.F.args_dict_pop_2 _ _) (meetsPop1 (knd := mixKind X.prog X.w) (k := k) hd)
    ⟨xs', tupleKind_room_in1 hu, key_of I.hok hb, dd, hz, ⟨p0, hp0⟩, fun p hp h' tk dd' hs => ?_⟩
  rw [hp0] at hp
  cases hp
  obtain ⟨o, es, ep, hq, h2, h3, h4, _, h5⟩ := dd'
  have I2 : Inv X pins σ (upd H a (.dT (dropK kvs k))) { s with heap := h', toks := tk } :=
    d_write I (by rw [ha]; exact True.intro) hs ⟨o, hq⟩ ⟨Nat.le_trans (dropK_le kvs k) z, hd, _, (L2.DX.KT_drop k rel).keeps (fun c ys ec => (by rw [upd_ne (ne_of ec ha (fun z => nomatch z))]; exact ec)), o, es, ep, hq, h2, h3, h4, h5⟩
  show EP X pins σ Q p0.2 _
  exact ⟨v0, _, I2, rv0, q⟩
end
end Ns
namespace Ns
open PySem PySem.Spec PyProof.Rows L2
/-! ### dict(pairs), the keys being tuples -/
def mergeT (kvs more : DT) : DT := more.foldl (fun acc kv => putK acc kv.1 kv.2) kvs
theorem mergeT_len : ∀ (more kvs : DT), (mergeT kvs more).length ≤ kvs.length + more.length
  | [], kvs => by simp [mergeT]
  | kv :: more, kvs => by
    have h1 := mergeT_len more (putK kvs kv.1 kv.2)
    have h2 := length_putK kvs kv.1 kv.2
    rw [List.length_cons]
    show (mergeT (putK kvs kv.1 kv.2) more).length ≤ _
    omega
theorem kt_merge {H : Hp} : ∀ (more : DT) (ps : List (List Key × Addr × Value)) (kvs : DT) (xs : List (List Key × Addr × Value)), KT H more ps → KT H kvs xs → KT H (mergeT kvs more) (storedAllH xs ps)
  | [], [], _, _, _, h => h
  | kv :: more, x :: ps, kvs, xs, .cons p t, h => by
    have e := p.1
    have h2 : KT H (putK kvs kv.1 kv.2) (storedH xs x.1 x.2.1 x.2.2) := by
      rw [← e]
      exact h.put _ p.2.1 p.2.2
    exact kt_merge more ps _ _ t h2
section
variable {X : Cx}
/-- the pairs that stand in a list -/
def PairsT (H : Hp) (ps : List Addr) (kvs : DT) : Prop := Paired (fun p (kv : List Key × V) => ∃ b, H p = some (.tup [.ref b, kv.2]) ∧ H b = some (.tup (kv.1.map kV))) ps kvs
theorem pairsT_vals {P : Program} {w : World} {H : Hp} {h : Heap} (ok : HOk P w H h) : ∀ {ps : List Addr} {kvs : DT}, PairsT H ps kvs → ∃ xs : List (List Key × Addr × Value), KT H kvs xs ∧ Paired (fun p (x : List Key × Addr × Value) => h.IsTuple p #[.ref x.2.1, x.2.2]) ps xs
  | _, _, .nil => ⟨[], .nil, .nil⟩
  | _, _, .cons ⟨b, h1, h2⟩ t => by
    obtain ⟨xs, k1, k2⟩ := pairsT_vals ok t
    obtain ⟨_, its2, r2, o, ho, hc, n, hd⟩ := ok _ _ h1
    obtain ⟨u1, u2, rfl, ri, rj⟩ := vals2 r2
    cases ri
    exact ⟨(_, b, u2) :: xs, .cons ⟨rfl, h2, rj⟩ k1, .cons ⟨o, ho, hc, n, hd⟩ k2⟩
def rDictOfT (K : PySem.W.Frag) : List V → Hp → VK → Prop := fun xs H Q => ∃ (a : Addr) (ps : List Addr) (kvs : DT), xs = [.ref a] ∧ SqL K H a (ps.map V.ref) ∧ PairsT H ps kvs ∧ ∀ p, H p = none → Q (.ref p) (upd H p (.dT (mergeT [] kvs)))
theorem call_dictT {K : PySem.W.Frag} (hK : X.K = K) (hc : X.calm = true) (hu : X.A.units + 100 < cLine) : CallR X (.type "dict") (rDictOfT K) := by
  subst hK
  intro pins s σ H vs us Q I r h
  obtain ⟨a, ps, kvs, rfl, hs, hp, q⟩ := h
  obtain ⟨u, rfl, rx⟩ := vals1 r
  cases rx
  obtain ⟨its, rv, pl, hz⟩ := I.list hs
  have ei := refs_at rv
  subst ei
  obtain ⟨xs, kt, pr⟩ := pairsT_vals I.hok hp
  have lp := Paired.length pr
  rw [List.length_map] at hz
  obtain ⟨o, n, ho, hcl, hdd, hdat⟩ := pl
  have sysm : (s.heap.objs.size == sysModules) = false := beq_eq_false_iff_ne.mpr (Nat.ne_of_gt I.big)
  refine PySem.call_dict_pairsH (knd := tupleKind (mixKind X.prog X.w)) (ps := xs) (n := (xs.map fun x => ((Value.ref x.2.1 : Value), x.2.2)).length)
    (PairArg.list a (ps.map Value.ref).toArray (fun j => ps.getD j 0) (xs.map fun x => (Value.ref x.2.1, x.2.2))) (I.ok.hd hc) (tupleKind_room_in1 (by show X.A.units + 1 + 1 < cLine; omega)) ⟨⟨o, n, ho, hcl, hdd, hdat⟩, ?gsize, ?gitems⟩ ⟨by simp, ?ghave⟩ ?gstay ?glen fun h' tk hd' hk => ?gend
  case gsize =>
    simp [lp]
  case gitems =>
    intro j k v hj
    rw [List.getElem?_map] at hj
    cases hx : xs[j]? with
    | none => rw [hx] at hj; cases hj
    | some x =>
      rw [hx] at hj
      cases hj
      obtain ⟨p, h1, h2⟩ := pAt pr hx
      refine ⟨?_, ?_⟩
      · simp [h1]
      · show PairAt s.heap (ps.getD j 0) _ _
        rw [show ps.getD j 0 = p by simp [List.getD, h1]]
        exact .inl h2
  case ghave =>
    intro i key v hi
    have hi : (xs.map fun x => ((Value.ref x.2.1 : Value), x.2.2))[i]? = some (key, v) := hi
    rw [List.getElem?_map] at hi
    cases hx : xs[i]? with
    | none => rw [hx] at hi; cases hi
    | some x =>
      rw [hx] at hi
      cases hi
      exact ⟨x.1, x.2.1, rfl, rfl⟩
  case gstay =>
    intro h' hk x hx
    have hok : HOk X.prog X.w H h' := fun b ob e => (I.hok b ob e).stay (fun c u _ e2 => hk c u (Nat.ne_of_lt (Heap.lt_size e2)) (by simp) e2) (fun _ q => q) (fun _ _ q => q)
    obtain ⟨kv, hkv, e1, e2, _⟩ := pMem kt hx
    rw [← e1]
    exact key_of hok e2
  case glen =>
    simp only [List.length_map]
    omega
  case gend =>
    have hlen : (mergeT [] kvs).length ≤ sizeLine := by
      have h1 := mergeT_len kvs []
      have h2 := Paired.length kt
      simp at h1
      omega
    have hfr := I.hok.fresh (a := s.heap.objs.size) (Nat.le_refl _)
    obtain ⟨o2, es, ep, hq, h2, h3, h4, _, h5⟩ := hd'
    refine ⟨.ref s.heap.objs.size, upd H s.heap.objs.size (.dT (mergeT [] kvs)), I.laid (t' := tk) (fun b u e => hk b u (by simp) e) (Nat.le_refl _) (show ObjOk X.prog X.w _ _ _ (.dT (mergeT [] kvs)) from ⟨hlen, sysm, storedAllH [] xs, ?_, o2, es, ep, hq, h2, h3, h4, h5⟩), rfl, q _ hfr⟩
    exact (kt_merge kvs xs [] [] kt .nil).keeps fun b ys e => by
      rw [upd_ne (ne_of_none e hfr)]
      exact e
end
end Ns
namespace Ns
open PySem PySem.Spec PyProof.Rows L2
/-! ### t.index(x), whole numbers -/
theorem flat_ints (ys : List Int) : (ys.map V.int).all flatV = true := by
  rw [List.all_map]
  exact List.all_eq_true.mpr fun _ _ => rfl
section
variable {X : Cx}
def rTIndex (K : PySem.W.Frag) : V → List V → Hp → VK → Prop := fun x xs H Q => ∃ (p : Addr) (ys : List Int) (z : Int) (j : Nat), x = .ref p ∧ xs = [.int z] ∧ SqT K H p (ys.map V.int) ∧ ys[j]? = some z ∧ (∀ m, m < j → ys[m]? ≠ some z) ∧ Q (.int (j : Nat)) H
theorem mt_tindex {K : PySem.W.Frag} (hK : X.K = K) : MtR X "tuple.index" (rTIndex K) := by
  subst hK
  intro pins s σ H x xs v us Q I rx rs h
  obtain ⟨p, ys, z, j, rfl, rfl, hq, hy, hno, q⟩ := h
  cases rx
  obtain ⟨u, rfl, t, rfl⟩ := vals1 rs
  obtain ⟨its, r, pl, hz⟩ := I.tuple hq
  obtain ⟨⟨cls, dd, dt, sl⟩, ho, hc, n, hd⟩ := pl
  simp only at hc hd
  subst hc
  subst hd
  have hl : its.toArray.size = ys.length := by rw [List.size_toArray, ← r.length, List.length_map]
  have hj : j < its.toArray.size := by rw [hl]; exact (List.getElem?_eq_some_iff.mp hy).1
  have at' : ∀ (m : Nat) (hm : m < its.toArray.size), ∃ y t', ys[m]? = some y ∧ its.toArray[m] = Value.int y t' := fun m hm => by
    have hm' : m < ys.length := by rw [← hl]; exact hm
    obtain ⟨w, hw, t', hw'⟩ := r.get (i := m) (x := .int ys[m]) (by simp [hm'])
    refine ⟨ys[m], t', List.getElem?_eq_getElem hm', ?_⟩
    have e := (List.getElem?_eq_some_iff.mp hw).2
    rw [← hw', ← e]
    simp
  refine call_meets PySem.F.slot_tuple_index ⟨_, ho, rfl⟩ PySem.F.entry_tuple_index (PySem.F.args_tuple_index_2 _ _) (TI.tuple_indexAt p its.toArray n dd sl (.int z t) (eqU (.int z)) j hj ?_ ?_)
    ⟨ho, fun w hw => mem_eqAt (x := .int z) ⟨t, rfl⟩ rfl r (flat_ints ys) w (by simpa using hw), ⟨.int (j : Nat), H, I.tok _, ⟨_, rfl⟩, q⟩⟩
  · obtain ⟨y, t', h1, h2⟩ := at' j hj
    rw [hy] at h1
    cases h1
    rw [h2]
    show (z == z) = true
    exact beq_self_eq_true z
  · intro m hm hmj
    obtain ⟨y, t', h1, h2⟩ := at' m hm
    rw [h2]
    show (y == z) = false
    exact beq_eq_false_iff_ne.mpr fun e => hno m hmj (e ▸ h1)
end
end Ns
namespace Ns
open PySem PySem.Spec PyProof.Rows L2
/-! ### tuples whose object is known -/
section
variable {X : Cx}
/-- tuple(xs) of a list: the new tuple's object is known, it has no dict -/
def rTupOfF (K : PySem.W.Frag) : List V → Hp → VK → Prop := fun xs H Q => ∃ p ys, xs = [.ref p] ∧ SqL K H p ys ∧ ∀ (l : Addr) (o : Obj), H l = none → o.dict = none → Q (.ref l) (upd H l (.frz o (.tup ys)))
theorem call_tuple_ofF {K : PySem.W.Frag} (hK : X.K = K) : CallR X (.type "tuple") (rTupOfF K) := by
  subst hK
  intro pins s σ H xs us Q I r h
  obtain ⟨p, ys, rfl, hq, q⟩ := h
  obtain ⟨u, rfl, rx⟩ := vals1 r
  cases rx
  obtain ⟨its, r', pl, hz⟩ := I.list hq
  have hlen := r'.length
  refine call_tuple_list pl.isList (fun h' kp => ?_) (by simp only [List.size_toArray] <;> omega)
  have I1 : Inv X pins σ H { s with heap := h' } := I.kept (t' := s.toks) kp
  have I2 : Inv X pins σ (upd H h'.objs.size (.frz { cls := .type "tuple", data := .seq its.toArray } (.tup ys))) { s with heap := h'.push { cls := .type "tuple", data := .seq its.toArray } } :=
    I1.laid (t' := s.toks) (fun b o e => Heap.get?_push_of_some _ e) (Nat.le_refl _) (show ObjOk X.prog X.w _ _ _ (.frz _ (.tup ys)) from ⟨Heap.get?_push_size _ rfl, hz, its, r', IsTup.new _ _⟩)
  exact ⟨.ref h'.objs.size, _, I2, rfl, q _ _ (I1.hok.fresh (Nat.le_refl _)) rfl⟩
variable {o e : Expr} {es : List Expr} {to : TE} {t : TA} {name : Str} {apos cpos : Pos} {id : String} {r : V → List V → Hp → VK → Prop}
def tBMF (r : V → List V → Hp → VK → Prop) (to : TE) (t : TA) : TE := fun σ H Q => to σ H fun x H1 => (∃ (p : Addr) (o : Obj) (xs : List V), x = .ref p ∧ H1 p = some (.frz o (.tup xs)) ∧ o.dict = none) ∧ t σ H1 fun xs H2 => r x xs H2 Q
/-- a method of a tuple whose object is known -/
theorem pe_bmF (pa : PlainAttrs "tuple") (slot : Slot "tuple" name id) (hty : typeOf (.builtin id) = pure (.type "method_descriptor")) (hm : MtR X id r) (ho : PE X o to) (ha : PA X (e :: es) t)
    (hbase : attributeBase o name X.env (eval o X.env) = eval o X.env := by rfl)
    (hfew : ((backTo cpos (starEach (e :: es) X.env)).all (fun x => !x.1) && (backToKw cpos (keywordEach [] X.env)).all (fun x => x.1.isSome)
      && decide ((e :: es).length + ([] : List Keyword).length + (if ([] : List Keyword).isEmpty then 0 else 1) < 30)) = true := by rfl)
    (hline : (apos.endLine == cpos.line) = true := by rfl) (hs : starEach (e :: es) X.env = (false, eval e X.env) :: starEach es X.env := by rfl) (hplain : (backTo cpos (starEach es X.env)).any (·.1) = false := by rfl) :
    PE X (.Call (.Attribute o name apos) (e :: es) [] cpos) (tBMF r to t) := by
  refine ⟨fun pins s σ H Q I h => ?_⟩
  refine wpAny_Call_method_late hbase hfew hline rfl (thn (ho.run pins s σ H _ I h) fun v s1 ⟨x, H1, I1, r1, ty, q1⟩ => ?_)
  obtain ⟨p, ob, xs, ex, hp, hd⟩ := ty
  subst ex
  have r1' := r1
  cases r1
  obtain ⟨hg, hz, its, rv, o2, ho2, hc2, n2, hd2⟩ := (show ObjOk X.prog X.w H1 s1.heap p (.frz ob (.tup xs)) from I1.hok p _ hp)
  refine ⟨"tuple", id, pa, slot, hty, ⟨o2, ho2, hc2⟩, fun a e => ?_, ?_⟩
  · cases e
    exact ⟨ob, hg, hd⟩
  · have hA := ha.run cpos pins s1 σ H1 _ I1 q1
    rw [hs] at hA ⊢
    refine Calls.callWith_builtin (by show (false || (backTo cpos (starEach es X.env)).any (·.1)) = false; rw [hplain] <;> rfl) (Calls.evalArgs_plain ?_)
    exact thn hA fun us s2 ⟨vs, H2, I2, r2, q2⟩ => hm pins s2 σ H2 _ vs _ us Q I2 r1' r2 q2
end
end Ns

/-! Own layer B: the law's draws. -/
namespace Ns
open PySem PySem.Spec PyProof.Rows L2
local macro_rules | `(tactic| walk_at "look") => `(tactic| first | assumption | exact upd_same | (refine (upd_ne (by first | assumption | exact Ne.symm (by assumption))).trans ?_; walk_at "look"))
local macro_rules | `(tactic| walk_at "cond") => `(tactic| first | assumption | omega | (dsimp only; omega) | exact ⟨by omega, by omega⟩ | decide | exact ⟨by decide, by decide, by decide⟩ | exact .inr ⟨by decide, by decide⟩ | exact .inl ⟨by decide, by decide⟩ | exact .inr ⟨by omega, by omega⟩ | exact .inl ⟨by omega, by omega⟩)
local macro_rules | `(tactic| walk_at "rd1") => `(tactic| first
  | refine ⟨_, rfl, ?_⟩
  | refine ⟨_, _, rfl, rfl, ?_⟩
  | refine ⟨rfl, ?_⟩
  | refine ⟨_, _, rfl, rfl, (by walk_at "cond"), ?_⟩
  | refine ⟨_, _, _, _, rfl, rfl, SqL.of (by walk_at "look"), rfl, ?_⟩
  | refine ⟨_, _, _, _, rfl, rfl, SqT.of (by walk_at "look"), rfl, ?_⟩
  | refine ⟨_, _, _, _, rfl, rfl, (by walk_at "look"), rfl, ?_⟩
  | refine .inl ⟨_, rfl, ?_⟩
  | refine ⟨.inl ⟨rfl, _, SqL.of (by walk_at "look")⟩, ?_⟩
  | refine ⟨_, _, rfl, ⟨by omega, by omega, by omega, by omega⟩, ?_⟩
  | refine ⟨_, rfl, (by omega), (by omega), ?_⟩
  | refine And.intro (by walk_at "cond") ?_)
local macro_rules | `(tactic| walk_at "rd") => `(tactic| repeat (walk_at "rd1"))

def top (i : Nat) : Stmt := PySem.Challenge.pw_netstory_k41_texts_there_and_back.main.body.getD i (.Pass ⟨0, 0, 0, 0⟩)
abbrev s_law_box : Stmt := top 14
abbrev N_law_box : List Str := ["script", "x"]
theorem sc_law_box : FnScope N_law_box ["script"] (defScope s_law_box) := ⟨rfl, rfl, rfl, by decide +kernel, rfl, by decide +kernel, by decide +kernel⟩
abbrev s_law_take : Stmt := top 15
abbrev N_law_take : List Str := ["box", "m", "at", "cell", "told"]
theorem sc_law_take : FnScope N_law_take ["box", "m"] (defScope s_law_take) := ⟨rfl, rfl, rfl, by decide +kernel, rfl, by decide +kernel, by decide +kernel⟩
abbrev s_law_pick : Stmt := top 16
abbrev N_law_pick : List Str := ["box", "menu"]
theorem sc_law_pick : FnScope N_law_pick ["box", "menu"] (defScope s_law_pick) := ⟨rfl, rfl, rfl, by decide +kernel, rfl, by decide +kernel, by decide +kernel⟩
/-! ### the box: two lists -/
def Box (H : Hp) (b l : Addr) : Prop := ∃ (c0 c1 c2 : Int) (ns : List Int), H b = some (.lst [.int c0, .int c1, .int c2, .ref l]) ∧ H l = some (.lst (ns.map V.int)) ∧ 0 ≤ c2
theorem Box.ne {H : Hp} {b l : Addr} (x : Box H b l) : l ≠ b := by
  obtain ⟨c0, c1, c2, ns, h1, h2, _⟩ := x
  intro e
  subst e
  rw [h1] at h2
  cases ns with
  | nil => simp at h2
  | cons n ns => cases ns with
    | nil => simp at h2
    | cons m ns => cases ns with
      | nil => simp at h2
      | cons m ns => cases ns with
        | nil => simp at h2
        | cons m ns => simp at h2
/-- all stands but the box at b, which is a box still -/
structure Kp (b l : Addr) (H H' : Hp) : Prop where
  same : ∀ a o, H a = some o → a ≠ b → H' a = some o
  box : Box H' b l
theorem Kp.refl {b l : Addr} {H : Hp} (x : Box H b l) : Kp b l H H := ⟨fun _ _ h _ => h, x⟩
theorem Kp.trans {b l : Addr} {H H1 H2 : Hp} (x : Kp b l H H1) (y : Kp b l H1 H2) : Kp b l H H2 := ⟨fun a o h n => y.same a o (x.same a o h n) n, y.box⟩
theorem Box.same {b l : Addr} {H H' : Hp} (x : Box H b l) (k : Same H H') : Box H' b l := by
  obtain ⟨c0, c1, c2, ns, h1, h2, h3⟩ := x
  exact ⟨c0, c1, c2, ns, k _ _ h1, k _ _ h2, h3⟩
theorem Kp.then {b l : Addr} {H H1 H2 : Hp} (x : Kp b l H H1) (y : Same H1 H2) : Kp b l H H2 := ⟨fun a o h n => y a o (x.same a o h n), x.box.same y⟩
theorem same_new0 {H : Hp} {p : Addr} {o : HO} (h : H p = none) : Same H (upd H p o) := fun b x e => by
  rw [upd_ne (ne_of_none e h)]
  exact e
theorem Kp.new {b l p : Addr} {o : HO} {H H1 : Hp} (x : Kp b l H H1) (h : H1 p = none) : Kp b l H (upd H1 p o) := x.then (same_new0 h)
/-- a store into an object that is new since H -/
theorem Kp.put {b l p : Addr} {o : HO} {H H1 : Hp} (x0 : Box H b l) (x : Kp b l H H1) (h : H p = none) : Kp b l H (upd H1 p o) := by
  obtain ⟨c0, c1, c2, ns, h1, h2, h3⟩ := x0
  refine ⟨fun a u e n => ?_, ?_⟩
  · rw [upd_ne (ne_of_none e h)]
    exact x.same a u e n
  · obtain ⟨d0, d1, d2, ms, g1, g2, g3⟩ := x.box
    exact ⟨d0, d1, d2, ms, by rw [upd_ne (ne_of_none h1 h)]; exact g1, by rw [upd_ne (ne_of_none h2 h)]; exact g2, g3⟩
theorem Kp.free {b l p : Addr} {H H' : Hp} (x0 : Box H b l) (x : Kp b l H H') (h : H' p = none) : H p = none := by
  cases q : H p with
  | none => rfl
  | some o =>
    by_cases e : p = b
    · obtain ⟨_, _, _, _, g, _⟩ := x.box
      rw [e, g] at h
      cases h
    · rw [x.same p o q e] at h
      cases h
theorem Kp.tup {b l p : Addr} {xs : List V} {H H' : Hp} (x0 : Box H b l) (x : Kp b l H H') (h : H p = some (.tup xs)) : H' p = some (.tup xs) := by
  obtain ⟨c0, c1, c2, ns, h1, h2, h3⟩ := x0
  exact x.same _ _ h (ne_of h h1 (by intro z; cases z))
theorem Kp.sx {b l d : Addr} {H H1 H2 : Hp} (x0 : Box H b l) (x : Kp b l H H1) (y : SameX d H1 H2) (h : H d = none) : Kp b l H H2 := by
  obtain ⟨c0, c1, c2, ns, h1, h2, h3⟩ := x0
  obtain ⟨d0, d1, d2, ms, g1, g2, g3⟩ := x.box
  exact ⟨fun a o e n => y a o (x.same a o e n) (ne_of_none e h), d0, d1, d2, ms, y _ _ g1 (ne_of_none h1 h), y _ _ g2 (ne_of_none h2 h), g3⟩
theorem Kp.kt {b l : Addr} {H H' : Hp} (x0 : Box H b l) (x : Kp b l H H') : KeepT H H' := fun _ _ h => x.tup x0 h
/-! ### promises -/
def sp_take : Sp := fun vs H Q _ => ∃ (b l : Addr) (m : Int), vs = [.ref b, .int m] ∧ Box H b l ∧ 0 < m ∧ m < 1073741824 ∧ ∀ (r : Int) (H' : Hp), 0 ≤ r → r < m → Kp b l H H' → Q (.int r) H'
section
variable {P : Program} {w : World} {K : PySem.W.Frag} {mg : Str → Option Value} {base : Heap}
theorem cal_take (A : At K mg "_law_take" s_law_take) (B : Bi mg) : Cal P w K mg base 1 "_law_take" sp_take := by
  have nd := sc_law_take.nd
  refine A.cal sc_law_take (fun _ _ _ _ _ _ us hl => match us, hl with | [_, _], _ => rfl) ?_ fun f cdv A' outer s H vs Q E hr h => ⟨_, (C8.pss_cut (ps_if (pt_cmpR op_eq (pe_ix (ix_listK (K := K) rfl) (pv 0) pe_int (fun _ _ => rfl)) pe_int (nomark _)) (pss_cons (ps_set (i := 2) nd rfl (.inl rfl) (pe_ix (ix_listK (K := K) rfl) (pv 0) pe_int (fun _ _ => rfl)))
  (pss_cons (ps_set (i := 3) nd rfl (.inl rfl) pe_int)
  (C8.pss_cut (ps_if (pt_cmpR op_lt (pv 2) (pe_callB (call_lenK (K := K) rfl) (by rfl) B.len (by decide +kernel) (pa_cons (pe_ix (ix_listK (K := K) rfl) (pv 0) pe_int (fun _ _ => rfl)) pa_nil)) (nomark _)) (pss_cons (ps_set (i := 3) nd rfl (.inl rfl) (pe_ix (ix_listK (K := K) rfl) (pe_ix (ix_listK (K := K) rfl) (pv 0) pe_int (fun _ _ => rfl)) (pv 2) (fun _ _ => rfl)))
  (pss_one (ps_asg (pe_ifExp (pt_cmpR op_ge (pv 3) (pe_op op_pow pe_int pe_int) (nomark _)) pe_int (pe_un un_neg pe_int)) (pg_sub (pv 0) pe_int set_list)))) pss_nil)
  (pss_cons (ps_asg (pe_op op_add (pv 2) pe_int) (pg_sub (pv 0) pe_int set_list))
  (pss_cons (ps_asg (pv 3) (pg_sub (pv 0) pe_int set_list))
  (pss_one (ps_if (pt_cmpR op_eq (pe_ix (ix_listK (K := K) rfl) (pv 0) pe_int (fun _ _ => rfl)) pe_int (nomark _)) (pss_one (ps_ret pe_int)) pss_nil))))))) pss_nil)
  (pss_cons (ps_if (pt_cmpR op_gt (pe_ix (ix_listK (K := K) rfl) (pv 0) pe_int (fun _ _ => rfl)) pe_int (nomark _)) (pss_cons (ps_set (i := 4) nd rfl (.inl rfl) (pe_op op_mod (pe_callTy call_int1 (by rfl) B.int_ (by decide +kernel) (pa_cons (pe_ix (ix_listK (K := K) rfl) (pv 0) pe_int (fun _ _ => rfl)) pa_nil)) (pv 1)))
  (pss_cons (ps_asg (pe_op op_fdiv (pe_ix (ix_listK (K := K) rfl) (pv 0) pe_int (fun _ _ => rfl)) (pv 1)) (pg_sub (pv 0) pe_int set_list))
  (pss_cons (ps_asg (pe_ifExp (pt_cmpR op_gt (pe_ix (ix_listK (K := K) rfl) (pv 0) pe_int (fun _ _ => rfl)) pe_int (nomark _)) (pe_op op_sub (pe_ix (ix_listK (K := K) rfl) (pv 0) pe_int (fun _ _ => rfl)) pe_int) pe_int) (pg_sub (pv 0) pe_int set_list))
  (pss_one (ps_ret (pv 4)))))) pss_nil)
  (pss_cons (ps_asg (pe_op op_add (pe_ix (ix_listK (K := K) rfl) (pv 0) pe_int (fun _ _ => rfl)) pe_int) (pg_sub (pv 0) pe_int set_list))
  (pss_cons (ps_asg (pe_op op_mod (pe_callTy call_int1 (by rfl) B.int_ (by decide +kernel) (pa_cons (pe_op op_add (pe_op op_mul (pe_ix (ix_listK (K := K) rfl) (pv 0) pe_int (fun _ _ => rfl)) pe_int) (pe_op op_mul pe_int (pe_op op_add (pe_ix (ix_listK (K := K) rfl) (pv 0) pe_int (fun _ _ => rfl)) pe_int))) pa_nil)) pe_int) (pg_sub (pv 0) pe_int set_list))
  (pss_one (ps_ret (pe_op op_mod (pe_op op_mod (pe_callTy call_int1 (by rfl) B.int_ (by decide +kernel) (pa_cons (pe_op op_add (pe_op op_fdiv (pe_ix (ix_listK (K := K) rfl) (pv 0) pe_int (fun _ _ => rfl)) pe_int) (pe_ix (ix_listK (K := K) rfl) (pv 0) pe_int (fun _ _ => rfl))) pa_nil)) pe_int) (pv 1)))))))), ?_⟩
  · rintro vs H Q E ⟨b, l, m, rfl, _⟩
    rfl
  · obtain ⟨b, l, m, rfl, ⟨c0, c1, c2, ns, hb, hl, h0⟩, m0, m1, q⟩ := h
    have hne : l ≠ b := Box.ne ⟨c0, c1, c2, ns, hb, hl, h0⟩
    have keep : ∀ {H1 : Hp} {o1 : HO}, (∀ a o, H a = some o → a ≠ b → H1 a = some o) → ∀ a o, H a = some o → a ≠ b → (upd H1 b o1) a = some o := fun h a o e n => by
      rw [upd_ne n]
      exact h a o e n
    have k0 : ∀ a o, H a = some o → a ≠ b → H a = some o := fun a o h _ => h
    have hat : ∀ c2 : Int, 0 ≤ c2 → c2 < ((ns.map V.int).length : Nat) → ∃ z, atI (ns.map V.int) c2 = some (.int z) := fun c2 h1 h2 => by
      have hlt : c2.toNat < ns.length := by simp at h2; omega
      refine ⟨ns[c2.toNat], ?_⟩
      have := atI_nat (xs := ns.map V.int) (j := c2.toNat) (v := .int ns[c2.toNat]) (by rw [List.getElem?_map]; simp [hlt])
      rwa [Int.toNat_of_nonneg h1] at this
    -- if box[1] == 0
    refine ⟨fun σ' H' => ∃ (v2 v3 : Option V) (d0 d1 d2 : Int), σ' = [some (.ref b), some (.int m), v2, v3, none] ∧ H' b = some (.lst [.int d0, .int d1, .int d2, .ref l]) ∧ H' l = some (.lst (ns.map V.int)) ∧ 0 ≤ d2 ∧ (∀ a o, H a = some o → a ≠ b → H' a = some o), ?_, ?_⟩
    · walk_at "rd"
      refine ifI (fun c => ?_) (fun c => ?_)
      · walk_at "rd"
        refine ⟨fun σ' H' => ∃ (d1 c3 : Int), σ' = [some (.ref b), some (.int m), some (.int c2), some (.int c3), none] ∧ H' b = some (.lst [.int c0, .int d1, .int c2, .ref l]) ∧ H' l = some (.lst (ns.map V.int)) ∧ (∀ a o, H a = some o → a ≠ b → H' a = some o), ?_, ?_⟩
        · walk_at "rd"
          refine ⟨_, _, rfl, Or.inl ⟨_, SqL.of hl, rfl⟩, ?_⟩
          walk_at "rd"
          refine ifD (fun c2l => ?_) (fun c2l => ?_)
          · obtain ⟨z, hz⟩ := hat c2 h0 c2l
            walk_at "rd"
            refine ⟨_, _, _, _, rfl, rfl, SqL.of hl, hz, ?_⟩
            walk_at "rd"
            refine ifD (fun cz => ?_) (fun cz => ?_)
            · walk_at "rd"
              exact ⟨_, _, rfl, upd_same, by walk_at "look", keep k0⟩
            · walk_at "rd"
              exact ⟨_, _, rfl, upd_same, by walk_at "look", keep k0⟩
          · exact ⟨_, _, rfl, hb, hl, k0⟩
        · rintro σ' H1 ⟨d1, c3, rfl, hb1, hl1, k1⟩
          walk_at "rd"
          refine ifI (fun c => ?_) (fun c => ?_)
          · refine q _ _ (Int.le_refl _) m0 ⟨keep (keep k1), ?_⟩
            exact ⟨_, _, _, ns, upd_same, by walk_at "look", by omega⟩
          · exact ⟨_, _, _, _, _, rfl, upd_same, by walk_at "look", by omega, keep (keep k1)⟩
      · exact ⟨none, none, c0, c1, c2, rfl, hb, hl, h0, fun a o h _ => h⟩
    · rintro σ' H1 ⟨v2, v3, d0, d1, d2, rfl, hb1, hl1, p2, k1⟩
      walk_at "rd"
      refine ifD (fun c => ?_) (fun c => ?_)
      · walk_at "rd"
        refine ifD (fun c => ?_) (fun c => ?_)
        · walk_at "rd"
          exact q _ _ (Int.emod_nonneg _ (by omega)) (Int.emod_lt_of_pos _ m0) ⟨keep (keep k1), _, _, _, ns, upd_same, by walk_at "look", p2⟩
        · walk_at "rd"
          exact q _ _ (Int.emod_nonneg _ (by omega)) (Int.emod_lt_of_pos _ m0) ⟨keep (keep k1), _, _, _, ns, upd_same, by walk_at "look", p2⟩
      · walk_at "rd"
        exact q _ _ (Int.emod_nonneg _ (by omega)) (Int.emod_lt_of_pos _ m0) ⟨keep (keep k1), _, _, _, ns, upd_same, by walk_at "look", p2⟩
/-! ### the box is made -/
def sp_box (K : PySem.W.Frag) : Sp := fun vs H Q _ => ∃ (a : Addr) (ns : List Int), vs = [.ref a] ∧ SqL K H a (ns.map V.int) ∧ ns.length ≤ 63 ∧ ∀ (b l : Addr) (H' : Hp), Same H H' → Box H' b l → Q (.ref b) H'
theorem cal_box (A : At K mg "_law_box" s_law_box) (B : Bi mg) : Cal P w K mg base 1 "_law_box" (sp_box K) := by
  have nd := sc_law_box.nd
  refine A.cal sc_law_box (fun _ _ _ _ _ _ us hl => match us, hl with | [_], _ => rfl) ?_ fun f cdv A' outer s H vs Q E hr h => ⟨_, (pss_one (ps_ret (pe_lst (pa_cons pe_int (pa_cons pe_int (pa_cons pe_int (pa_cons (pe_lc (own := [("x", 1)]) rfl nd (pi_listK (K := K) rfl (pv 0)) (blkOk_by (own := [("x", 1)]) (N := N_law_box) (sc := defScope s_law_box) (by decide +kernel)) (fun _ _ _ _ _ => (pg_name (i := 1) nd rfl (.inl rfl) (.inr rfl))) (fun _ _ _ _ _ => pts_nil) (fun _ _ _ _ _ => (pe_callB call_abs (by rfl) B.abs (by decide +kernel) (pa_cons (pe_callTy call_int1 (by rfl) B.int_ (by decide +kernel) (pa_cons (pv 1) pa_nil)) pa_nil)))) pa_nil))))))), ?_⟩
  · rintro vs H Q E ⟨a, ns, rfl, _⟩
    rfl
  · obtain ⟨a, ns, rfl, hS, hn, q⟩ := h
    refine ⟨_, rfl, a, rfl, ⟨_, hS⟩, fun D hD => ?_⟩
    refine comp_list persNm (fun z : Int => some (if z < 0 then -z else z)) persNm hD hS (by rw [List.length_map]; exact sizeBig (by omega)) (pairedNm H ns) ?_ ?_
    · rintro z x H1 Yes No hz rfl sm yes no
      walk_at "rd"
      exact yes _ rfl _ _ (Same.refl _) rfl
    · intro H1 ys sm hy pr
      refine ⟨by show 4 ≤ sizeLine; decide, fun p hp => ?_⟩
      have e := pairedNm_eq pr
      subst e
      have hne : p ≠ D := fun e => by rw [e, hy] at hp; cases hp
      exact q p D _ (sNew sm hp) ⟨0, 0, 0, _, upd_same, by rw [upd_ne (Ne.symm hne)]; exact hy, Int.le_refl _⟩
/-! ### an item of a menu -/
def sp_pick (K : PySem.W.Frag) : Sp := fun vs H Q _ => ∃ (b l m : Addr) (xs : List V), vs = [.ref b, .ref m] ∧ Box H b l ∧ ((H m = some (.lst xs) ∧ m ≠ b) ∨ H m = some (.tup xs)) ∧ xs ≠ [] ∧ xs.length < 1073741824 ∧
  ∀ (v : V) (H' : Hp), v ∈ xs → Kp b l H H' → Q v H'
theorem cal_pick (A : At K mg "_law_pick" s_law_pick) (B : Bi mg) (c_law_take : Cal P w K mg base 1 "_law_take" sp_take) : Cal P w K mg base 2 "_law_pick" (sp_pick K) := by
  have nd := sc_law_pick.nd
  refine A.cal sc_law_pick (fun _ _ _ _ _ _ us hl => match us, hl with | [_, _], _ => rfl) ?_ fun f cdv A' outer s H vs Q E hr h => ⟨_, (pss_one (ps_ret (pe_ix (ix_seqK (K := K) rfl) (pv 1) (pe_cal c_law_take hr (by decide) (by rfl) passE (pa_cons (pv 0) (pa_cons (pe_callB (call_lenK (K := K) rfl) (by rfl) B.len (by decide +kernel) (pa_cons (pv 1) pa_nil)) pa_nil))) (fun _ _ => rfl)))), ?_⟩
  · rintro vs H Q E ⟨b, l, m, xs, rfl, _⟩
    rfl
  · obtain ⟨b, l, m, xs, rfl, hb, hm, hx, hn, q⟩ := h
    have hpos : 0 < xs.length := List.length_pos_iff.mpr hx
    have hz : (xs.length : Int) < 1073741824 := by omega
    walk_at "rd"
    refine ⟨_, _, rfl, hm.elim (fun h => .inl ⟨_, SqL.of h.1, rfl⟩) (fun h => .inr ⟨_, SqT.of h, rfl⟩), ?_⟩
    refine ⟨b, l, _, rfl, hb, by omega, hz, fun r H' r0 r1 k => ?_⟩
    have hat : xs[r.toNat]? = some xs[r.toNat] := by simp [show r.toNat < xs.length by omega]
    have hat2 : atI xs r = some xs[r.toNat] := by
      have := atI_nat hat
      rwa [Int.toNat_of_nonneg r0] at this
    have q' := q _ H' (List.mem_of_getElem? hat) k
    rcases hm with ⟨h, hne⟩ | h
    · exact .inl ⟨_, _, _, _, rfl, rfl, SqL.of (k.same _ _ h hne), hat2, q'⟩
    · exact .inr (.inl ⟨_, _, _, _, rfl, rfl, SqT.of (k.tup hb h), hat2, q'⟩)
end
end Ns

/-! Own layer C: nets that the law draws. -/
namespace Ns
open PySem PySem.Spec PyProof.Rows L2
local macro_rules | `(tactic| walk_at "look") => `(tactic| first | assumption | exact upd_same | (refine (upd_ne (by first | assumption | exact Ne.symm (by assumption))).trans ?_; walk_at "look"))
local macro_rules | `(tactic| walk_at "cond") => `(tactic| first | assumption | omega | (dsimp only; omega) | exact ⟨by omega, by omega⟩ | decide | exact ⟨by decide, by decide, by decide⟩ | exact .inr ⟨by decide, by decide⟩ | exact .inl ⟨by decide, by decide⟩ | exact .inr ⟨by omega, by omega⟩ | exact .inl ⟨by omega, by omega⟩)
local macro_rules | `(tactic| walk_at "rd1") => `(tactic| first
  | refine ⟨_, rfl, ?_⟩
  | refine ⟨_, _, rfl, rfl, ?_⟩
  | refine ⟨rfl, ?_⟩
  | refine ⟨_, _, rfl, rfl, (by walk_at "cond"), ?_⟩
  | refine ⟨_, _, _, _, rfl, rfl, SqL.of (by walk_at "look"), rfl, ?_⟩
  | refine ⟨_, _, _, _, rfl, rfl, SqT.of (by walk_at "look"), rfl, ?_⟩
  | refine ⟨_, _, _, _, rfl, rfl, (by walk_at "look"), rfl, ?_⟩
  | refine .inl ⟨_, rfl, ?_⟩
  | refine ⟨.inl ⟨rfl, _, SqL.of (by walk_at "look")⟩, ?_⟩
  | refine ⟨_, _, rfl, ⟨by omega, by omega, by omega, by omega⟩, ?_⟩
  | refine ⟨_, rfl, (by omega), (by omega), ?_⟩
  | refine And.intro (by walk_at "cond") ?_)
local macro_rules | `(tactic| walk_at "rd") => `(tactic| repeat (walk_at "rd1"))

abbrev s_law_pairs : Stmt := top 17
abbrev N_law_pairs : List Str := ["n", "pairs", "x", "y"]
theorem sc_law_pairs : FnScope N_law_pairs ["n"] (defScope s_law_pairs) := ⟨rfl, rfl, rfl, by decide +kernel, rfl, by decide +kernel, by decide +kernel⟩
abbrev s_law_made : Stmt := top 18
abbrev N_law_made : List Str := ["n", "there", "x", "y"]
theorem sc_law_made : FnScope N_law_made ["n", "there"] (defScope s_law_made) := ⟨rfl, rfl, rfl, by decide +kernel, rfl, by decide +kernel, by decide +kernel⟩
abbrev s_law_row : Stmt := top 19
abbrev N_law_row : List Str := ["box", "n", "row", "x"]
theorem sc_law_row : FnScope N_law_row ["box", "n"] (defScope s_law_row) := ⟨rfl, rfl, rfl, by decide +kernel, rfl, by decide +kernel, by decide +kernel⟩
abbrev s_law_by_stretches : Stmt := top 20
abbrev N_law_by_stretches : List Str := ["box", "n", "ends", "x", "left", "there", "y"]
theorem sc_law_by_stretches : FnScope N_law_by_stretches ["box", "n"] (defScope s_law_by_stretches) := ⟨rfl, rfl, rfl, by decide +kernel, rfl, by decide +kernel, by decide +kernel⟩
abbrev s_law_by_lines : Stmt := top 21
abbrev N_law_by_lines : List Str := ["box", "n", "row", "there", "x", "y"]
theorem sc_law_by_lines : FnScope N_law_by_lines ["box", "n"] (defScope s_law_by_lines) := ⟨rfl, rfl, rfl, by decide +kernel, rfl, by decide +kernel, by decide +kernel⟩
abbrev s_law_by_twins : Stmt := top 22
abbrev N_law_by_twins : List Str := ["box", "n", "there", "x", "like", "y"]
theorem sc_law_by_twins : FnScope N_law_by_twins ["box", "n"] (defScope s_law_by_twins) := ⟨rfl, rfl, rfl, by decide +kernel, rfl, by decide +kernel, by decide +kernel⟩
section
variable {P : Program} {w : World} {K : PySem.W.Frag} {mg : Str → Option Value} {base : Heap}
def sp_pairs : Sp := fun vs H Q _ => ∃ n : Nat, vs = [pI n] ∧ n ≤ 1000 ∧ ∀ (p : Addr) (us : List V) (H' : Hp), Same H H' → H p = none → H' p = some (.lst us) → Paired (Pr H') us (allPairs n) → Q (.ref p) H'
theorem rowP_eq {n x : Nat} {m : Nat} (h : m = n - (x + 1)) : (List.range m).filterMap (fun k => some (x, x + 1 + k)) = rowP n x := by
  subst h
  unfold rowP
  rw [← List.filterMap_eq_map]
  rfl
theorem cal_pairs (A : At K mg "_law_pairs" s_law_pairs) (B : Bi mg) : Cal P w K mg base 1 "_law_pairs" sp_pairs := by
  have nd := sc_law_pairs.nd
  refine A.cal sc_law_pairs (fun _ _ _ _ _ _ us hl => match us, hl with | [_], _ => rfl) ?_ fun f cdv A' outer s H vs Q E hr h => ⟨_, (pss_cons (ps_set (i := 1) nd rfl (.inl rfl) (pe_lst pa_nil))
  (pss_cons (ps_for passOwn rfl (pi_range1 (by rfl) B.range (pa_cons (pv 0) pa_nil)) (pg_name (i := 2) nd rfl (.inr rfl)) (pss_one (ps_expr (pe_bm PySem.F.plainAttrs_list PySem.F.slot_list_extend PySem.F.type_list_extend mt_extend (pv 1) (pa_cons (pe_lc (own := [("y", 3)]) rfl nd (pi_range2 (by rfl) B.range (pa_cons (pe_op op_add (pv 2) pe_int) (pa_cons (pv 0) pa_nil))) (blkOk_by (own := [("y", 3)]) (N := N_law_pairs) (sc := defScope s_law_pairs) (by decide +kernel)) (fun _ _ _ _ _ => (pg_name (i := 3) nd rfl (.inl rfl) (.inr rfl))) (fun _ _ _ _ _ => pts_nil) (fun _ _ _ _ _ => (pe_tup (pa_cons (pv 2) (pa_cons (pv 3) pa_nil))))) pa_nil)))))
  (pss_one (ps_ret (pv 1))))), ?_⟩
  · rintro vs H Q E ⟨n, rfl, _⟩
    rfl
  · obtain ⟨n, rfl, hn, q⟩ := h
    refine ⟨Nat.zero_le _, fun p hp => ?_⟩
    refine ⟨_, rfl, _, rfl, by omega, by omega, for_range (lo := 0) (n := n) (fun i σ H1 => ∃ v2, σ = [some (pI n), some (.ref p), v2, none] ∧ Same H H1 ∧ ∃ us, H1 p = some (.lst us) ∧ Paired (Pr H1) us ((List.range i).flatMap (rowP n))) ⟨none, rfl, same_laid hp, [], upd_same, by simpa using Paired.nil⟩ ?_ ?_⟩
    · rintro i σ H1 hi ⟨v2, rfl, sm, us, hu, pr⟩
      walk_at "rd"
      intro D hD
      have hpD : p ≠ D := ne_of_none hu hD
      have len1 : us.length ≤ 1000 * 1000 := by
        have h1 := flat_len (rowP n) n (rowP_len n) (List.range i)
        rw [List.length_range] at h1
        have h2 := pr.length
        have h3 : i * n ≤ 1000 * 1000 := Nat.mul_le_mul (by omega) hn
        omega
      refine comp_range (n := ((n : Int) - (0 + (i : Int) + 1)).toNat) (sizeBig (by omega)) (fun k => some (i, i + 1 + k)) persPr hD ?_ ?_
      · intro k H2 Yes No hk sm2 yes no
        walk_at "rd"
        refine ⟨by show 2 ≤ sizeLine; decide, fun t ht => ?_⟩
        exact yes _ rfl _ _ (same_laid ht) (prMk upd_same (by simp) (by simp <;> omega))
      · intro H2 ys sm2 hy pr2
        rw [rowP_eq (n := n) (by omega)] at pr2
        have len2 := rowP_len n i
        have len3 := pr2.length
        refine ⟨_, _, _, _, rfl, rfl, sm2 _ _ hu, hy, Nat.le_of_lt (sizeBig (by omega)), ?_⟩
        have kt : KeepT H2 (upd H2 p (.lst (us ++ ys))) := KeepT.lst (sm2 _ _ hu)
        refine ⟨some (pI i), ?_, sPut (sm.trans sm2) hp, _, upd_same, ?_⟩
        · simp [pI, L2.start]
        · rw [List.range_succ, List.flatMap_append]
          refine pApp (pMono persPr ((sKt sm2).trans kt) pr) ?_
          simpa using pMono persPr kt pr2
    · rintro σ H1 ⟨v2, rfl, sm, us, hu, pr⟩
      walk_at "rd"
      exact q p us H1 sm hp hu pr
def either (kvs : DT) (p : Nat × Nat) : Bool := hasP kvs p || hasP kvs (p.2, p.1)
def sp_made : Sp := fun vs H Q _ => ∃ (n : Nat) (d : Addr) (kvs : DT), vs = [pI n, .ref d] ∧ n ≤ 1000 ∧ H d = some (.dT kvs) ∧ ∀ (v : V) (H' : Hp), Same H H' → Net H' v n ((allPairs n).filter (either kvs)) → Q v H'
theorem cal_made (A : At K mg "_law_made" s_law_made) (B : Bi mg) (c_law_pairs : Cal P w K mg base 1 "_law_pairs" sp_pairs) : Cal P w K mg base 2 "_law_made" sp_made := by
  have nd := sc_law_made.nd
  refine A.cal sc_law_made (fun _ _ _ _ _ _ us hl => match us, hl with | [_, _], _ => rfl) ?_ fun f cdv A' outer s H vs Q E hr h => ⟨_, (pss_one (ps_ret (pe_tup (pa_cons (pv 0) (pa_cons (pe_callTy (call_tuple_ofK (K := K) rfl) (by rfl) B.tuple (by decide +kernel) (pa_cons (pe_lc (own := [("x", 2), ("y", 3)]) rfl nd (pi_listK (K := K) rfl (pe_cal c_law_pairs hr (by decide) (by rfl) passE (pa_cons (pv 0) pa_nil))) (blkOk_by (own := [("x", 2), ("y", 3)]) (N := N_law_made) (sc := defScope s_law_made) (by decide +kernel)) (fun _ _ _ _ _ => (pg_tupK (K := K) (n := 2) rfl rfl (pgs_cons (pg_name (i := 2) nd rfl (.inl rfl) (.inr rfl)) (pgs_cons (pg_name (i := 3) nd rfl (.inl rfl) (.inr rfl)) pgs_nil)))) (fun _ _ _ _ _ => (pts_one (PW.pt (pw_or (pt_cmp (pc_din (hu_of hr) (pe_tup (pa_cons (pv 2) (pa_cons (pv 3) pa_nil))) (pv 1)) rfl) (pw_or1 (pt_cmp (pc_din (hu_of hr) (pe_tup (pa_cons (pv 3) (pa_cons (pv 2) pa_nil))) (pv 1)) rfl)))))) (fun _ _ _ _ _ => (pe_tup (pa_cons (pv 2) (pa_cons (pv 3) pa_nil))))) pa_nil)) pa_nil))))), ?_⟩
  · rintro vs H Q E ⟨n, d, kvs, rfl, _⟩
    rfl
  · obtain ⟨n, d, kvs, rfl, hn, hd, q⟩ := h
    walk_at "rd"
    intro p us H1 sm np hu pr
    refine ⟨p, rfl, ⟨_, SqL.of hu⟩, fun D hD => ?_⟩
    have len1 := pr.length
    have len2 := allPairs_len n
    have len3 : n * n ≤ 1000 * 1000 := Nat.mul_le_mul hn hn
    refine comp_list persPr (fun x => if either kvs x then some x else none) persPr hD (SqL.of hu) (sizeBig (by omega)) pr ?_ ?_
    · rintro x v H2 Yes No hx ⟨t, rfl, ht⟩ sm2 yes no
      have hd2 : H2 d = some (.dT kvs) := sm2 _ _ (sm _ _ hd)
      have fin : ∀ H3, Same H2 H3 → either kvs x = true → ∀ (t1 : Addr), H3 t1 = none → Yes (.ref t1) (upd H3 t1 (.tup [pI x.1, pI x.2])) := fun H3 s3 e t1 h1 =>
        yes x (by rw [e]; rfl) _ _ (sNew s3 h1) ⟨t1, rfl, upd_same⟩
      refine ⟨t, _, rfl, SqT.of ht, rfl, _, _, rfl, _, _, rfl, rfl, rfl, ?_⟩
      walk_at "rd"
      refine ⟨by show 2 ≤ sizeLine; decide, fun t1 h1 => ?_⟩
      walk_at "rd"
      refine ⟨_, _, rfl, dgetP (x := x) (by rw [upd_ne (ne_of_none hd2 h1)]; exact hd2) upd_same rfl rfl, ?_⟩
      refine ⟨_, rfl, ifB (fun e => ?_) (fun e => ?_)⟩
      · refine iteT ?_
        walk_at "rd"
        refine ⟨by show 2 ≤ sizeLine; decide, fun t2 h2 => ?_⟩
        exact fin _ (same_laid h1) (by unfold either; rw [show hasP kvs x = true from e]; rfl) t2 h2
      · walk_at "rd"
        refine ⟨by show 2 ≤ sizeLine; decide, fun t2 h2 => ?_⟩
        have s2 := sNew (same_laid (o := .tup [pI x.1, pI x.2]) h1) (o := .tup [pI x.2, pI x.1]) h2
        walk_at "rd"
        refine ⟨_, _, rfl, dgetP (x := (x.2, x.1)) (s2 _ _ hd2) upd_same rfl rfl, ?_⟩
        refine ⟨_, rfl, ifB (fun e2 => ?_) (fun e2 => ?_)⟩
        · walk_at "rd"
          refine ⟨by show 2 ≤ sizeLine; decide, fun t3 h3 => ?_⟩
          exact fin _ s2 (by unfold either; rw [show hasP kvs (x.2, x.1) = true from e2, Bool.or_true]) t3 h3
        · exact no (by unfold either; rw [show hasP kvs x = false from e, show hasP kvs (x.2, x.1) = false from e2]; rfl) _ s2
    · intro H2 ys sm2 hy pr2
      have e : (allPairs n).filterMap (fun x => if either kvs x then some x else none) = (allPairs n).filter (either kvs) := by
        rw [← List.filterMap_eq_filter]
        rfl
      rw [e] at pr2
      refine ⟨_, _, rfl, .inl ⟨SqL.of hy, fun t ht => ?_⟩⟩
      refine ⟨by show 2 ≤ sizeLine; decide, fun t2 h2 => ?_⟩
      refine q _ _ (sNew (sNew (sm.trans sm2) ht) h2) ⟨t2, .ref t, rfl, upd_same, t, ys, rfl, ?_, ?_⟩
      · rw [upd_ne (ne_of_none upd_same h2)]
        exact upd_same
      · exact pMono persPr ((KeepT.new ht).trans (KeepT.new h2)) pr2
/-! ### all points in a drawn order -/
/-- a tuple of points, its object known -/
def Row (H : Hp) (v : V) (xs : List Nat) : Prop := ∃ (t : Addr) (o : Obj), v = .ref t ∧ H t = some (.frz o (.tup (xs.map pI))) ∧ o.dict = none
theorem Row.same {H H' : Hp} {v : V} {xs : List Nat} (x : Row H v xs) (k : Same H H') : Row H' v xs := by
  obtain ⟨t, o, e, h, d⟩ := x
  exact ⟨t, o, e, k _ _ h, d⟩
theorem Row.kp {b l : Addr} {H H' : Hp} {v : V} {xs : List Nat} (hb : Box H b l) (x : Row H v xs) (k : Kp b l H H') : Row H' v xs := by
  obtain ⟨t, o, e, h, d⟩ := x
  obtain ⟨_, _, _, _, g, _⟩ := hb
  exact ⟨t, o, e, k.same _ _ h (ne_of h g (by intro z; cases z)), d⟩
theorem first_at : ∀ {xs : List Nat} {x : Nat}, x ∈ xs → ∃ j : Nat, xs[j]? = some x ∧ ∀ m : Nat, m < j → xs[m]? ≠ some x
  | [], _, h => by cases h
  | y :: ys, x, h => by
    by_cases e : y = x
    · exact ⟨0, by rw [e]; rfl, fun m hm => by omega⟩
    · obtain ⟨j, h1, h2⟩ := first_at (xs := ys) (x := x) ((List.mem_cons.mp h).resolve_left (fun z => e z.symm))
      refine ⟨j + 1, by simpa using h1, fun m hm => ?_⟩
      cases m with
      | zero => simpa using e
      | succ m => simpa using h2 m (by omega)
theorem first_atI {xs : List Nat} {x : Nat} (h : x ∈ xs) : ∃ j : Nat, (xs.map fun z : Nat => (z : Int))[j]? = some (x : Int) ∧ ∀ m : Nat, m < j → (xs.map fun z : Nat => (z : Int))[m]? ≠ some (x : Int) := by
  obtain ⟨j, h1, h2⟩ := first_at h
  refine ⟨j, by rw [List.getElem?_map, h1]; rfl, fun m hm e => ?_⟩
  rw [List.getElem?_map] at e
  cases q : xs[m]? with
  | none => rw [q] at e; cases e
  | some z =>
    rw [q] at e
    have e2 : (z : Int) = x := Option.some.inj e
    exact h2 m hm (by rw [q]; congr 1; omega)
theorem map_pI (xs : List Nat) : xs.map pI = (xs.map fun z : Nat => (z : Int)).map V.int := by
  rw [List.map_map]
  rfl
def sp_row : Sp := fun vs H Q _ => ∃ (b l : Addr) (n : Nat), vs = [.ref b, pI n] ∧ n ≤ 1000 ∧ Box H b l ∧ ∀ (v : V) (xs : List Nat) (H' : Hp), xs.Perm (List.range n) → Row H' v xs → Kp b l H H' → Q v H'
theorem cal_row (A : At K mg "_law_row" s_law_row) (B : Bi mg) (c_law_take : Cal P w K mg base 1 "_law_take" sp_take) : Cal P w K mg base 2 "_law_row" sp_row := by
  have nd := sc_law_row.nd
  refine A.cal sc_law_row (fun _ _ _ _ _ _ us hl => match us, hl with | [_, _], _ => rfl) ?_ fun f cdv A' outer s H vs Q E hr h => ⟨_, (pss_cons (ps_set (i := 2) nd rfl (.inl rfl) (pe_lst pa_nil))
  (pss_cons (ps_for passOwn rfl (pi_range1 (by rfl) B.range (pa_cons (pv 1) pa_nil)) (pg_name (i := 3) nd rfl (.inl rfl)) (pss_one (ps_expr (pe_bm PySem.F.plainAttrs_list PySem.F.slot_list_insert PySem.F.type_list_insert mt_insert (pv 2) (pa_cons (pe_cal c_law_take hr (by decide) (by rfl) passE (pa_cons (pv 0) (pa_cons (pe_op op_add (pv 3) pe_int) pa_nil))) (pa_cons (pv 3) pa_nil))))))
  (pss_one (ps_ret (pe_callTy (call_tuple_ofF (K := K) rfl) (by rfl) B.tuple (by decide +kernel) (pa_cons (pv 2) pa_nil)))))), ?_⟩
  · rintro vs H Q E ⟨b, l, n, rfl, _⟩
    rfl
  · obtain ⟨b, l, n, rfl, hn, hb, q⟩ := h
    refine ⟨Nat.zero_le _, fun p hp => ?_⟩
    have hpb : p ≠ b := fun e => by
      obtain ⟨_, _, _, _, g, _⟩ := hb
      rw [e, g] at hp
      cases hp
    refine ⟨_, rfl, _, rfl, by omega, by omega, for_range (lo := 0) (n := n) (fun i σ H1 => ∃ v3, σ = [some (.ref b), some (pI n), some (.ref p), v3] ∧ Kp b l H H1 ∧ ∃ xs : List Nat, H1 p = some (.lst (xs.map pI)) ∧ xs.Perm (List.range i)) ⟨none, rfl, (Kp.refl hb).then (same_laid hp), [], upd_same, List.Perm.refl _⟩ ?_ ?_⟩
    · rintro i σ H1 hi ⟨v3, rfl, k1, xs, hx, pm⟩
      walk_at "rd"
      refine ⟨b, l, _, rfl, k1.box, by omega, by omega, fun r H2 r0 r1 k2 => ?_⟩
      walk_at "rd"
      have hx2 : H2 p = some (.lst (xs.map pI)) := k2.same _ _ hx hpb
      have hl : xs.length = i := by rw [pm.length_eq, List.length_range]
      refine ⟨p, _, r, _, rfl, rfl, hx2, by rw [List.length_map, hl]; exact sizeBig (by omega), r0, by omega, ?_⟩
      refine ⟨_, rfl, (k1.trans k2).put hb hp, xs.take r.toNat ++ [i] ++ xs.drop r.toNat, ?_, ?_⟩
      · rw [upd_same]
        simp [List.map_take, List.map_drop, pI]
      · have e1 : (xs.take r.toNat ++ [i] ++ xs.drop r.toNat).Perm (xs ++ [i]) := by
          rw [List.append_assoc]
          refine (List.Perm.append_left _ (List.perm_append_comm)).trans ?_
          rw [← List.append_assoc, List.take_append_drop]
        rw [List.range_succ]
        exact e1.trans (pm.append_right _)
    · rintro σ H1 ⟨v3, rfl, k1, xs, hx, pm⟩
      walk_at "rd"
      refine ⟨_, _, rfl, SqL.of hx, fun t o ht hd => ?_⟩
      exact q _ xs _ pm ⟨t, o, rfl, upd_same, hd⟩ (k1.new ht)
/-! ### dicts of ties -/
def spBy : Sp := fun vs H Q _ => ∃ (b l : Addr) (n : Nat), vs = [.ref b, pI n] ∧ n ≤ 1000 ∧ Box H b l ∧ ∀ (d : Addr) (kvs : DT) (H' : Hp), H d = none → H' d = some (.dT kvs) → KeysIn n kvs → Kp b l H H' → Q (.ref d) H'
theorem box_ne {H : Hp} {b l p : Addr} (hb : Box H b l) (hp : H p = none) : p ≠ b := fun e => by
  obtain ⟨_, _, _, _, g, _⟩ := hb
  rw [e, g] at hp
  cases hp
theorem cal_by_stretches (A : At K mg "_law_by_stretches" s_law_by_stretches) (B : Bi mg) (c_law_take : Cal P w K mg base 1 "_law_take" sp_take) (c_law_pairs : Cal P w K mg base 1 "_law_pairs" sp_pairs) : Cal P w K mg base 2 "_law_by_stretches" spBy := by
  have nd := sc_law_by_stretches.nd
  refine A.cal sc_law_by_stretches (fun _ _ _ _ _ _ us hl => match us, hl with | [_, _], _ => rfl) ?_ fun f cdv A' outer s H vs Q E hr h => ⟨_, (pss_cons (ps_set (i := 2) nd rfl (.inl rfl) (pe_lst pa_nil))
  (pss_cons (ps_for passOwn rfl (pi_range1 (by rfl) B.range (pa_cons (pv 1) pa_nil)) (pg_name (i := 3) nd rfl (.inl rfl)) (pss_cons (ps_set (i := 4) nd rfl (.inl rfl) (pe_cal c_law_take hr (by decide) (by rfl) passE (pa_cons (pv 0) (pa_cons (pe_op op_mul pe_int (pv 1)) pa_nil))))
  (pss_one (ps_expr (pe_bm PySem.F.plainAttrs_list PySem.F.slot_list_append PySem.F.type_list_append mt_append (pv 2) (pa_cons (pe_tup (pa_cons (pv 4) (pa_cons (pe_op op_add (pv 4) (pe_cal c_law_take hr (by decide) (by rfl) passE (pa_cons (pv 0) (pa_cons (pv 1) pa_nil)))) pa_nil))) pa_nil))))))
  (pss_cons (ps_set (i := 5) nd rfl (.inl rfl) pe_dnewT)
  (pss_cons (ps_for passOwn rfl (pi_listK (K := K) rfl (pe_cal c_law_pairs hr (by decide) (by rfl) passE (pa_cons (pv 1) pa_nil))) (pg_tupK (K := K) (n := 2) rfl rfl (pgs_cons (pg_name (i := 3) nd rfl (.inl rfl)) (pgs_cons (pg_name (i := 6) nd rfl (.inl rfl)) pgs_nil))) (pss_one (ps_if (PW.pt (pw_and (pt_cmpR op_le (pe_ix (ix_tupK (K := K) rfl) (pe_ix (ix_listK (K := K) rfl) (pv 2) (pv 3) (fun _ _ => rfl)) pe_int (fun _ _ => rfl)) (pe_ix (ix_tupK (K := K) rfl) (pe_ix (ix_listK (K := K) rfl) (pv 2) (pv 6) (fun _ _ => rfl)) pe_int (fun _ _ => rfl)) (nomark _)) (pw_and1 (pt_cmpR op_le (pe_ix (ix_tupK (K := K) rfl) (pe_ix (ix_listK (K := K) rfl) (pv 2) (pv 6) (fun _ _ => rfl)) pe_int (fun _ _ => rfl)) (pe_ix (ix_tupK (K := K) rfl) (pe_ix (ix_listK (K := K) rfl) (pv 2) (pv 3) (fun _ _ => rfl)) pe_int (fun _ _ => rfl)) (nomark _))))) (pss_one (ps_dput (hu_of hr) (pv 5) (pe_tup (pa_cons (pv 3) (pa_cons (pv 6) pa_nil))) pe_bl rfl)) pss_nil)))
  (pss_one (ps_ret (pv 5))))))), ?_⟩
  · rintro vs H Q E ⟨b, l, n, rfl, _⟩
    rfl
  · obtain ⟨b, l, n, rfl, hn, hb, q⟩ := h
    refine ⟨Nat.zero_le _, fun p hp => ?_⟩
    have hpb := box_ne hb hp
    refine ⟨_, rfl, _, rfl, by omega, by omega, for_range (lo := 0) (n := n) (fun i σ H1 => ∃ v3 v4, σ = [some (.ref b), some (pI n), some (.ref p), v3, v4, none, none] ∧ Kp b l H H1 ∧ ∃ (us : List V) (es : List (Int × Int)), H1 p = some (.lst us) ∧ Paired (PrZ H1) us es ∧ es.length = i) ⟨none, none, rfl, (Kp.refl hb).then (same_laid hp), [], [], upd_same, .nil, rfl⟩ ?_ ?_⟩
    · rintro i σ H1 hi ⟨v3, v4, rfl, k1, us, es, hu, pr, le⟩
      walk_at "rd"
      refine ⟨b, l, _, rfl, k1.box, by omega, by omega, fun r H2 r0 r1 k2 => ?_⟩
      have hu2 : H2 p = some (.lst us) := k2.same _ _ hu hpb
      walk_at "rd"
      refine ⟨b, l, _, rfl, k2.box, by omega, by omega, fun r' H3 r0' r1' k3 => ?_⟩
      have hu3 : H3 p = some (.lst us) := k3.same _ _ hu2 hpb
      walk_at "rd"
      refine ⟨by show 2 ≤ sizeLine; decide, fun t ht => ?_⟩
      have hu4 : (upd H3 t (.tup [.int r, .int (r + r')])) p = some (.lst us) := by rw [upd_ne (ne_of_none hu3 ht)]; exact hu3
      have lu := Paired.length pr
      refine ⟨p, us, _, rfl, rfl, hu4, sizeBig (by omega), ?_⟩
      have kk : KeepT H1 H3 := fun a xs e => k3.tup k2.box (k2.tup k1.box e)
      refine ⟨_, _, rfl, (((k1.trans k2).trans k3).new ht).put hb hp, us ++ [.ref t], es ++ [(r, r + r')], upd_same, ?_, by simp [le]⟩
      have kt : KeepT (upd H3 t (.tup [.int r, .int (r + r')])) (upd (upd H3 t (.tup [.int r, .int (r + r')])) p (.lst (us ++ [.ref t]))) := KeepT.lst hu4
      exact pApp (pMono persPrZ ((kk.trans (KeepT.new ht)).trans kt) pr) (.cons ⟨t, rfl, kt _ _ upd_same⟩ .nil)
    · rintro σ H1 ⟨v3, v4, rfl, k1, us, es, hu, pr, le⟩
      intro d hd
      have hd0 : H d = none := k1.free hb hd
      walk_at "rd"
      intro pp ps H2 sm2 np hps prs
      have lu := Paired.length pr
      have hd2 : H2 d = some (.dT []) := sm2 _ _ upd_same
      have k2 : Kp b l H H2 := (k1.new hd).then sm2
      have hu2 : H2 p = some (.lst us) := sm2 _ _ (by rw [upd_ne (ne_of_none hu hd)]; exact hu)
      have pr2 : Paired (PrZ H2) us es := pMono persPrZ ((KeepT.new hd).trans (sKt sm2)) pr
      have hat : ∀ x : Nat, x < n → ∃ (t : Addr) (a c : Int), atI us ((0 : Int) + 0 + x) = some (.ref t) ∧ atI us (x : Int) = some (.ref t) ∧ H2 t = some (.tup [.int a, .int c]) := fun x hx => by
        have hy : es[x]? = some es[x] := by simp [show x < es.length by omega]
        obtain ⟨v, h1, t, rfl, h2⟩ := pAt pr2 hy
        have := atI_nat h1
        exact ⟨t, _, _, by simpa using this, this, h2⟩
      refine ⟨pp, rfl, ⟨_, SqL.of hps⟩, for_list (K := K) (a := pp) (xs := ps) (fun i σ H3 => ∃ v3 v6, σ = [some (.ref b), some (pI n), some (.ref p), v3, v4, some (.ref d), v6] ∧ SameX d H2 H3 ∧ ∃ kvs, H3 d = some (.dT kvs) ∧ KeysIn n kvs)
        ⟨_, _, rfl, SameX.refl _ _, [], hd2, KeysIn.nil⟩ (fun i σ H3 _ ⟨_, _, _, sx, _⟩ => SqL.of (sx _ _ hps (ne_of hps hd2 (by intro z; cases z)))) ?_ ?_⟩
      · rintro i v σ H3 hv ⟨v3, v6, rfl, sx, kvs, hk, ki⟩
        obtain ⟨x, hx, hxr⟩ := pAtL prs hv
        have kt : KeepT H2 H3 := sxKt sx hd2
        obtain ⟨t, rfl, ht⟩ := persPr _ _ _ _ kt hxr
        have hxp := mem_allPairs.mp (List.mem_of_getElem? hx)
        obtain ⟨tx, ax, cx, _, ex, gx⟩ := hat x.1 (by omega)
        obtain ⟨ty, ay, cy, _, ey, gy⟩ := hat x.2 (by omega)
        have gx := kt _ _ gx
        have gy := kt _ _ gy
        have hu3 : H3 p = some (.lst us) := sx _ _ hu2 (ne_of hu2 hd2 (by intro z; cases z))
        refine ⟨t, _, rfl, SqT.of ht, rfl, _, _, rfl, _, _, rfl, rfl, ?_⟩
        walk_at "rd"
        refine ⟨_, _, _, _, rfl, rfl, SqL.of hu3, ex, ?_⟩
        walk_at "rd"
        refine ⟨_, _, _, _, rfl, rfl, SqL.of hu3, ey, ?_⟩
        walk_at "rd"
        have keep : ∃ v3' v6', [some (V.ref b), some (pI n), some (V.ref p), some (pI x.1), v4, some (V.ref d), some (pI x.2)] = [some (V.ref b), some (pI n), some (V.ref p), v3', v4, some (V.ref d), v6'] ∧ SameX d H2 H3 ∧ ∃ kvs, H3 d = some (.dT kvs) ∧ KeysIn n kvs := ⟨_, _, rfl, sx, kvs, hk, ki⟩
        refine ifD (fun c => ?_) (fun c => ?_)
        · walk_at "rd"
          refine ⟨_, _, _, _, rfl, rfl, SqL.of hu3, ey, ?_⟩
          walk_at "rd"
          refine ⟨_, _, _, _, rfl, rfl, SqL.of hu3, ex, ?_⟩
          walk_at "rd"
          refine ifD (fun c => ?_) (fun c => ?_)
          · walk_at "rd"
            refine ⟨by show 2 ≤ sizeLine; decide, fun t2 h2 => ?_⟩
            refine ⟨d, _, rfl, dputP (x := x) (by rw [upd_ne (ne_of_none hk h2)]; exact hk) upd_same rfl rfl (keys_small ki hn), ?_⟩
            exact ⟨_, _, rfl, put_step sx hk ki h2 ⟨by omega, hxp.2⟩⟩
          · exact keep
        · exact keep
      · rintro σ H3 ⟨v3, v6, rfl, sx, kvs, hk, ki⟩
        walk_at "rd"
        exact q d kvs H3 hd0 hk ki (Kp.sx hb k2 sx hd0)
theorem cal_by_lines (A : At K mg "_law_by_lines" s_law_by_lines) (B : Bi mg) (c_law_row : Cal P w K mg base 2 "_law_row" sp_row) (c_law_pairs : Cal P w K mg base 1 "_law_pairs" sp_pairs) : Cal P w K mg base 3 "_law_by_lines" spBy := by
  have nd := sc_law_by_lines.nd
  refine A.cal sc_law_by_lines (fun _ _ _ _ _ _ us hl => match us, hl with | [_, _], _ => rfl) ?_ fun f cdv A' outer s H vs Q E hr h => ⟨_, (pss_cons (ps_set (i := 2) nd rfl (.inl rfl) (pe_cal c_law_row hr (by decide) (by rfl) passE (pa_cons (pv 0) (pa_cons (pv 1) pa_nil))))
  (pss_cons (ps_set (i := 3) nd rfl (.inl rfl) pe_dnewT)
  (pss_cons (ps_for passOwn rfl (pi_listK (K := K) rfl (pe_cal c_law_pairs hr (by decide) (by rfl) passE (pa_cons (pv 1) pa_nil))) (pg_tupK (K := K) (n := 2) rfl rfl (pgs_cons (pg_name (i := 4) nd rfl (.inl rfl)) (pgs_cons (pg_name (i := 5) nd rfl (.inl rfl)) pgs_nil))) (pss_one (ps_if (pt_cmpR op_gt (pe_bmF PySem.F.plainAttrs_tuple PySem.F.slot_tuple_index PySem.F.type_tuple_index (mt_tindex (K := K) rfl) (pv 2) (pa_cons (pv 4) pa_nil)) (pe_bmF PySem.F.plainAttrs_tuple PySem.F.slot_tuple_index PySem.F.type_tuple_index (mt_tindex (K := K) rfl) (pv 2) (pa_cons (pv 5) pa_nil)) (nomark _)) (pss_one (ps_dput (hu_of hr) (pv 3) (pe_tup (pa_cons (pv 4) (pa_cons (pv 5) pa_nil))) pe_bl rfl)) pss_nil)))
  (pss_one (ps_ret (pv 3)))))), ?_⟩
  · rintro vs H Q E ⟨b, l, n, rfl, _⟩
    rfl
  · obtain ⟨b, l, n, rfl, hn, hb, q⟩ := h
    walk_at "rd"
    refine ⟨b, l, n, rfl, hn, hb, fun v xs H1 pm rw1 k1 => ?_⟩
    obtain ⟨r, o, rfl, hr1, od⟩ := rw1
    intro d hd
    have hd0 : H d = none := k1.free hb hd
    walk_at "rd"
    intro pp ps H2 sm2 np hps prs
    have hd2 : H2 d = some (.dT []) := sm2 _ _ upd_same
    have k2 : Kp b l H H2 := (k1.new hd).then sm2
    have hr2 : H2 r = some (.frz o (.tup (xs.map pI))) := sm2 _ _ (by rw [upd_ne (ne_of_none hr1 hd)]; exact hr1)
    refine ⟨pp, rfl, ⟨_, SqL.of hps⟩, for_list (K := K) (a := pp) (xs := ps) (fun i σ H3 => ∃ v3 v6, σ = [some (.ref b), some (pI n), some (.ref r), some (.ref d), v3, v6] ∧ SameX d H2 H3 ∧ ∃ kvs, H3 d = some (.dT kvs) ∧ KeysIn n kvs)
      ⟨_, _, rfl, SameX.refl _ _, [], hd2, KeysIn.nil⟩ (fun i σ H3 _ ⟨_, _, _, sx, _⟩ => SqL.of (sx _ _ hps (ne_of hps hd2 (by intro z; cases z)))) ?_ ?_⟩
    · rintro i v σ H3 hv ⟨v3, v6, rfl, sx, kvs, hk, ki⟩
      obtain ⟨x, hx, hxr⟩ := pAtL prs hv
      obtain ⟨t, rfl, ht⟩ := persPr _ _ _ _ (sxKt sx hd2) hxr
      have hxp := mem_allPairs.mp (List.mem_of_getElem? hx)
      have hr3 : H3 r = some (.frz o (.tup (xs.map pI))) := sx _ _ hr2 (ne_of hr2 hd2 (by intro z; cases z))
      have hsq : SqT K H3 r ((xs.map fun z : Nat => (z : Int)).map V.int) := by rw [← map_pI]; exact .inl (.inr ⟨o, hr3⟩)
      obtain ⟨j1, e1, f1⟩ := first_atI (pm.mem_iff.mpr (List.mem_range.mpr (show x.1 < n by omega)))
      obtain ⟨j2, e2, f2⟩ := first_atI (pm.mem_iff.mpr (List.mem_range.mpr (show x.2 < n by omega)))
      refine ⟨t, _, rfl, SqT.of ht, rfl, _, _, rfl, _, _, rfl, rfl, ?_⟩
      refine ⟨_, rfl, ⟨r, o, _, rfl, hr3, od⟩, _, rfl, r, _, _, _, rfl, rfl, hsq, e1, f1, ?_⟩
      refine ⟨_, rfl, ⟨r, o, _, rfl, hr3, od⟩, _, rfl, r, _, _, _, rfl, rfl, hsq, e2, f2, ?_⟩
      walk_at "rd"
      refine ifD (fun c => ?_) (fun c => ?_)
      · walk_at "rd"
        refine ⟨by show 2 ≤ sizeLine; decide, fun t2 h2 => ?_⟩
        refine ⟨d, _, rfl, dputP (x := x) (by rw [upd_ne (ne_of_none hk h2)]; exact hk) upd_same rfl rfl (keys_small ki hn), ?_⟩
        exact ⟨_, _, rfl, put_step sx hk ki h2 ⟨by omega, hxp.2⟩⟩
      · exact ⟨_, _, rfl, sx, kvs, hk, ki⟩
    · rintro σ H3 ⟨v3, v6, rfl, sx, kvs, hk, ki⟩
      walk_at "rd"
      exact q d kvs H3 hd0 hk ki (Kp.sx hb k2 sx hd0)
/-! ### twins -/
theorem cal_by_twins (A : At K mg "_law_by_twins" s_law_by_twins) (B : Bi mg) (c_law_take : Cal P w K mg base 1 "_law_take" sp_take) : Cal P w K mg base 2 "_law_by_twins" spBy := by
  have nd := sc_law_by_twins.nd
  refine A.cal sc_law_by_twins (fun _ _ _ _ _ _ us hl => match us, hl with | [_, _], _ => rfl) ?_ fun f cdv A' outer s H vs Q E hr h => ⟨_, (pss_cons (ps_set (i := 2) nd rfl (.inl rfl) pe_dnewT)
  (pss_cons (ps_for passOwn rfl (pi_range2 (by rfl) B.range (pa_cons pe_int (pa_cons (pv 1) pa_nil))) (pg_name (i := 3) nd rfl (.inl rfl)) (pss_cons (ps_set (i := 4) nd rfl (.inl rfl) (pe_cal c_law_take hr (by decide) (by rfl) passE (pa_cons (pv 0) (pa_cons (pv 3) pa_nil))))
  (pss_one (ps_for passOwn rfl (pi_range1 (by rfl) B.range (pa_cons (pv 3) pa_nil)) (pg_name (i := 5) nd rfl (.inl rfl)) (pss_one (ps_if (PW.pt (pw_or (pt_cmp (pc_din (hu_of hr) (pe_tup (pa_cons (pv 5) (pa_cons (pv 4) pa_nil))) (pv 2)) rfl) (pw_or (pt_cmp (pc_din (hu_of hr) (pe_tup (pa_cons (pv 4) (pa_cons (pv 5) pa_nil))) (pv 2)) rfl) (pw_or1 (PW.pt (pw_and (pt_cmpR op_eq (pv 5) (pv 4) (nomark _)) (pw_and1 (pt_cmpR op_eq (pe_cal c_law_take hr (by decide) (by rfl) passE (pa_cons (pv 0) (pa_cons pe_int pa_nil))) pe_int (nomark _))))))))) (pss_one (ps_dput (hu_of hr) (pv 2) (pe_tup (pa_cons (pv 5) (pa_cons (pv 3) pa_nil))) pe_bl rfl)) pss_nil))))))
  (pss_one (ps_ret (pv 2))))), ?_⟩
  · rintro vs H Q E ⟨b, l, n, rfl, _⟩
    rfl
  · obtain ⟨b, l, n, rfl, hn, hb, q⟩ := h
    intro d hd
    have hdb := box_ne hb hd
    walk_at "rd"
    refine for_range (lo := 1) (n := ((n : Int) - 1).toNat) (fun i σ H1 => ∃ v3 v4 v5, σ = [some (.ref b), some (pI n), some (.ref d), v3, v4, v5] ∧ Kp b l H H1 ∧ ∃ kvs, H1 d = some (.dT kvs) ∧ KeysIn n kvs) ⟨none, none, none, rfl, (Kp.refl hb).then (same_laid hd), [], upd_same, KeysIn.nil⟩ ?_ ?_
    · rintro i σ H1 hi ⟨v3, v4, v5, rfl, k1, kvs, hk, ki⟩
      walk_at "rd"
      refine ⟨b, l, _, rfl, k1.box, by omega, by omega, fun r H2 r0 r1 k2 => ?_⟩
      have hk2 : H2 d = some (.dT kvs) := k2.same _ _ hk hdb
      refine ⟨_, rfl, _, rfl, by omega, by omega, ?_⟩
      refine for_range (lo := 0) (n := ((1 : Int) + i).toNat) (fun j σ H3 => ∃ v5, σ = [some (.ref b), some (pI n), some (.ref d), some (.int (1 + i)), some (.int r), v5] ∧ Kp b l H H3 ∧ ∃ kvs, H3 d = some (.dT kvs) ∧ KeysIn n kvs) ⟨_, rfl, k1.trans k2, kvs, hk2, ki⟩ ?_ ?_
      · rintro j σ H3 hj ⟨v5, rfl, k3, kvs, hk3, ki3⟩
        -- what is left when nothing, or the tie, is stored
        have no : ∀ H4, Kp b l H H4 → H4 d = some (.dT kvs) → ∃ v5', [some (V.ref b), some (pI n), some (V.ref d), some (V.int (1 + i)), some (V.int r), some (V.int (0 + j))] = [some (.ref b), some (pI n), some (.ref d), some (.int (1 + i)), some (.int r), v5'] ∧ Kp b l H H4 ∧ ∃ kvs, H4 d = some (.dT kvs) ∧ KeysIn n kvs := fun H4 k4 h4 => ⟨_, rfl, k4, kvs, h4, ki3⟩
        have put : ∀ H4, Kp b l H H4 → H4 d = some (.dT kvs) → ∀ t, H4 t = none → Kp b l H (upd (upd H4 t (.tup [.int (0 + j), .int (1 + i)])) d (.dT (putK kvs (key (j, 1 + i)) (.bl true)))) ∧ ∃ kvs', (upd (upd H4 t (.tup [.int (0 + j), .int (1 + i)])) d (.dT (putK kvs (key (j, 1 + i)) (.bl true)))) d = some (.dT kvs') ∧ KeysIn n kvs' := fun H4 k4 h4 t ht =>
          ⟨(k4.new ht).put hb hd, _, upd_same, ki3.put ⟨by show j < n; omega, by show 1 + i < n; omega⟩⟩
        have store : ∀ H4, Kp b l H H4 → H4 d = some (.dT kvs) → ∀ t, H4 t = none → DPut (upd H4 t (.tup [.int (0 + j), .int (1 + i)])) d (.ref t) (.bl true) (upd (upd H4 t (.tup [.int (0 + j), .int (1 + i)])) d (.dT (putK kvs (key (j, 1 + i)) (.bl true)))) := fun H4 k4 h4 t ht =>
          dputP (x := (j, 1 + i)) (by rw [upd_ne (ne_of_none h4 ht)]; exact h4) upd_same (by simp) (by simp) (keys_small ki3 hn)
        have rN : r = ((r.toNat : Nat) : Int) := by omega
        refine ⟨_, rfl, _, rfl, by show 2 ≤ sizeLine; decide, fun t1 h1 => ⟨_, rfl, d, _, rfl, dgetP (x := (j, r.toNat)) (by rw [upd_ne (ne_of_none hk3 h1)]; exact hk3) upd_same (by simp) rN, ?_⟩⟩
        have k4 := k3.new (o := .tup [.int (0 + j), .int r]) h1
        have hk4 : (upd H3 t1 (.tup [.int (0 + j), .int r])) d = some (.dT kvs) := by rw [upd_ne (ne_of_none hk3 h1)]; exact hk3
        refine ⟨_, rfl, ifB (fun c => ?_) (fun c => ?_)⟩
        · refine iteT ?_
          refine ⟨_, rfl, _, rfl, _, rfl, by show 2 ≤ sizeLine; decide, fun t2 h2 => ⟨d, _, rfl, store _ k4 hk4 t2 h2, ?_⟩⟩
          exact ⟨_, rfl, put _ k4 hk4 t2 h2⟩
        · refine ⟨_, rfl, _, rfl, by show 2 ≤ sizeLine; decide, fun t2 h2 => ⟨_, rfl, d, _, rfl, dgetP (x := (r.toNat, j)) (by rw [upd_ne (ne_of_none hk4 h2)]; exact hk4) upd_same rN (by simp), ?_⟩⟩
          have k5 := k4.new (o := .tup [.int r, .int (0 + j)]) h2
          have hk5 : (upd (upd H3 t1 (.tup [.int (0 + j), .int r])) t2 (.tup [.int r, .int (0 + j)])) d = some (.dT kvs) := by rw [upd_ne (ne_of_none hk4 h2)]; exact hk4
          refine ⟨_, rfl, ifB (fun c => ?_) (fun c => ?_)⟩
          · refine iteT ?_
            refine ⟨_, rfl, _, rfl, _, rfl, by show 2 ≤ sizeLine; decide, fun t3 h3 => ⟨d, _, rfl, store _ k5 hk5 t3 h3, ?_⟩⟩
            exact ⟨_, rfl, put _ k5 hk5 t3 h3⟩
          · refine ⟨_, rfl, _, rfl, rfl, _, rfl, ifI (fun c => ?_) (fun c => ?_)⟩
            · refine ⟨_, rfl, b, l, _, rfl, k5.box, by omega, by omega, fun z H6 z0 z1 k6 => ?_⟩
              have hk6 : H6 d = some (.dT kvs) := k6.same _ _ hk5 hdb
              refine ⟨rfl, _, rfl, ifI (fun c => ?_) (fun c => ?_)⟩
              · refine ⟨_, rfl, _, rfl, _, rfl, by show 2 ≤ sizeLine; decide, fun t3 h3 => ⟨d, _, rfl, store _ (k5.trans k6) hk6 t3 h3, ?_⟩⟩
                exact ⟨_, rfl, put _ (k5.trans k6) hk6 t3 h3⟩
              · exact no _ (k5.trans k6) hk6
            · exact no _ k5 hk5
      · rintro σ H3 ⟨v5, rfl, k3, kvs, hk3, ki3⟩
        exact ⟨_, _, _, rfl, k3, kvs, hk3, ki3⟩
    · rintro σ H1 ⟨v3, v4, v5, rfl, k1, kvs, hk, ki⟩
      walk_at "rd"
      exact q d kvs H1 hd hk ki k1
end
end Ns

/-! Own layer E: nets that the law draws, the last part. -/
namespace Ns
open PySem PySem.Spec PyProof.Rows L2
local macro_rules | `(tactic| walk_at "look") => `(tactic| first | assumption | exact upd_same | (refine (upd_ne (by first | assumption | exact Ne.symm (by assumption))).trans ?_; walk_at "look"))
local macro_rules | `(tactic| walk_at "cond") => `(tactic| first | assumption | omega | (dsimp only; omega) | exact ⟨by omega, by omega⟩ | decide | exact ⟨by decide, by decide, by decide⟩ | exact .inr ⟨by decide, by decide⟩ | exact .inl ⟨by decide, by decide⟩ | exact .inr ⟨by omega, by omega⟩ | exact .inl ⟨by omega, by omega⟩)
local macro_rules | `(tactic| walk_at "rd1") => `(tactic| first
  | refine ⟨_, rfl, ?_⟩
  | refine ⟨_, _, rfl, rfl, ?_⟩
  | refine ⟨rfl, ?_⟩
  | refine ⟨_, _, rfl, rfl, (by walk_at "cond"), ?_⟩
  | refine ⟨_, _, _, _, rfl, rfl, SqL.of (by walk_at "look"), rfl, ?_⟩
  | refine ⟨_, _, _, _, rfl, rfl, SqT.of (by walk_at "look"), rfl, ?_⟩
  | refine ⟨_, _, _, _, rfl, rfl, (by walk_at "look"), rfl, ?_⟩
  | refine .inl ⟨_, rfl, ?_⟩
  | refine ⟨.inl ⟨rfl, _, SqL.of (by walk_at "look")⟩, ?_⟩
  | refine ⟨_, _, rfl, ⟨by omega, by omega, by omega, by omega⟩, ?_⟩
  | refine ⟨_, rfl, (by omega), (by omega), ?_⟩
  | refine And.intro (by walk_at "cond") ?_)
local macro_rules | `(tactic| walk_at "rd") => `(tactic| repeat (walk_at "rd1"))

abbrev s_law_by_sewing : Stmt := top 23
abbrev N_law_by_sewing : List Str := ["box", "n", "there", "x", "ties", "how", "y"]
theorem sc_law_by_sewing : FnScope N_law_by_sewing ["box", "n"] (defScope s_law_by_sewing) := ⟨rfl, rfl, rfl, by decide +kernel, rfl, by decide +kernel, by decide +kernel⟩
abbrev s_law_net : Stmt := top 24
abbrev N_law_net : List Str := ["box", "most", "n", "sort", "there", "side", "x", "y", "drawn", "turn", "pair"]
theorem sc_law_net : FnScope N_law_net ["box", "most"] (defScope s_law_net) := ⟨rfl, rfl, rfl, by decide +kernel, rfl, by decide +kernel, by decide +kernel⟩
section
variable {P : Program} {w : World} {K : PySem.W.Frag} {mg : Str → Option Value} {base : Heap}
theorem cal_by_sewing (A : At K mg "_law_by_sewing" s_law_by_sewing) (B : Bi mg) (c_law_take : Cal P w K mg base 1 "_law_take" sp_take) (c_law_pick : Cal P w K mg base 2 "_law_pick" (sp_pick K)) : Cal P w K mg base 3 "_law_by_sewing" spBy := by
  have nd := sc_law_by_sewing.nd
  refine A.cal sc_law_by_sewing (fun _ _ _ _ _ _ us hl => match us, hl with | [_, _], _ => rfl) ?_ fun f cdv A' outer s H vs Q E hr h => ⟨_, (pss_cons (ps_set (i := 2) nd rfl (.inl rfl) pe_dnewT)
  (pss_cons (ps_for passOwn rfl (pi_range2 (by rfl) B.range (pa_cons pe_int (pa_cons (pv 1) pa_nil))) (pg_name (i := 3) nd rfl (.inl rfl)) (pss_cons (ps_set (i := 4) nd rfl (.inl rfl) (pe_callB (cr_sortedKT rfl) (by rfl) B.sorted (by decide +kernel) (pa_cons (pv 2) pa_nil)))
  (pss_cons (ps_set (i := 5) nd rfl (.inl rfl) (pe_cal c_law_take hr (by decide) (by rfl) passE (pa_cons (pv 0) (pa_cons pe_int pa_nil))))
  (pss_one (ps_if (PW.pt (pw_and (pt_cmpR op_gt (pv 5) pe_int (nomark _)) (pw_and1 (pt_truthK (K := K) rfl (pv 4) (by intro _; rfl))))) (pss_one (ps_for passOwn rfl (pi_tupK (K := K) rfl (pe_cal c_law_pick hr (by decide) (by rfl) passE (pa_cons (pv 0) (pa_cons (pv 4) pa_nil)))) (pg_name (i := 6) nd rfl (.inl rfl)) (pss_one (ps_dput (hu_of hr) (pv 2) (pe_tup (pa_cons (pv 6) (pa_cons (pv 3) pa_nil))) pe_bl rfl)))) (pss_one (ps_if (pt_cmpR op_gt (pv 5) pe_int (nomark _)) (pss_one (ps_dput (hu_of hr) (pv 2) (pe_tup (pa_cons (pe_cal c_law_take hr (by decide) (by rfl) passE (pa_cons (pv 0) (pa_cons (pv 3) pa_nil))) (pa_cons (pv 3) pa_nil))) pe_bl rfl)) pss_nil)))))))
  (pss_one (ps_ret (pv 2))))), ?_⟩
  · rintro vs H Q E ⟨b, l, n, rfl, _⟩
    rfl
  · obtain ⟨b, l, n, rfl, hn, hb, q⟩ := h
    intro d hd
    have hdb := box_ne hb hd
    walk_at "rd"
    refine for_range (lo := 1) (n := ((n : Int) - 1).toNat) (fun i σ H1 => ∃ v4 v5 v6 v7, σ = [some (.ref b), some (pI n), some (.ref d), v4, v5, v6, v7] ∧ Kp b l H H1 ∧ ∃ kvs, H1 d = some (.dT kvs) ∧ KeysIn n kvs) ⟨none, none, none, none, rfl, (Kp.refl hb).then (same_laid hd), [], upd_same, KeysIn.nil⟩ ?_ ?_
    · rintro i σ H1 hi ⟨v4, v5, v6, v7, rfl, k1, kvs, hk, ki⟩
      obtain ⟨ks, kk, kb, kn⟩ := ki
      have ki : KeysIn n kvs := ⟨ks, kk, kb, kn⟩
      -- ties = sorted(there)
      refine ⟨_, rfl, d, kvs, ks, rfl, .inl hk, kk, fun bs ys p pm so pr hp => ?_⟩
      have k2 := k1.new (o := .lst (bs.map V.ref)) hp
      have hk2 : (upd H1 p (.lst (bs.map V.ref))) d = some (.dT kvs) := by rw [upd_ne (ne_of_none hk hp)]; exact hk
      have hpb : p ≠ b := fun e => by
        obtain ⟨_, _, _, _, g, _⟩ := k1.box
        rw [e, g] at hp
        cases hp
      -- how = take
      refine ⟨_, rfl, b, l, _, rfl, k2.box, by decide, by decide, fun how H3 h0 h1 k3 => ?_⟩
      have hk3 : H3 d = some (.dT kvs) := k3.same _ _ hk2 hdb
      have hp3 : H3 p = some (.lst (bs.map V.ref)) := k3.same _ _ upd_same hpb
      have k13 := k2.trans k3
      have lb := Paired.length pr
      have pr3 : Paired (Pr H3) (bs.map V.ref) ys := pMono persPr ((KeepT.new hp).trans (k3.kt k2.box)) pr
      have hsmall : bs.length < 1000000 + 1 := by
        have h3 := pm.length_eq
        have h4 := KeysAre.len (n := n) ⟨kk, kb, kn⟩
        have h5 := congrArg List.length kk
        rw [List.length_map] at lb h5
        rw [List.length_map] at h5
        have : n * n ≤ 1000 * 1000 := Nat.mul_le_mul hn hn
        omega
      have fin : ∀ H4, Kp b l H H4 → H4 d = some (.dT kvs) → ∃ w4 w5 w6 w7, [some (V.ref b), some (pI n), some (V.ref d), some (V.int (1 + i)), some (V.ref p), some (V.int how), v7] = [some (.ref b), some (pI n), some (.ref d), w4, w5, w6, w7] ∧ Kp b l H H4 ∧ ∃ kvs, H4 d = some (.dT kvs) ∧ KeysIn n kvs := fun H4 k4 h4 => ⟨_, _, _, _, rfl, k4, kvs, h4, ki⟩
      -- elif how > 0
      refine ⟨_, rfl, _, _, rfl, rfl, _, rfl, ifD (fun c => ?_) (fun c => ?_)⟩
      · refine ⟨_, rfl, _, .inl ⟨_, SqL.of hp3, rfl⟩, ifN (fun c => ?_) (fun c => ?_)⟩
        · -- for y in pick(ties)
          have hne : bs.map V.ref ≠ [] := fun e => by rw [e] at c; cases c
          refine ⟨_, rfl, _, rfl, b, l, p, _, rfl, k3.box, .inl ⟨hp3, hpb⟩, hne, by rw [List.length_map]; omega, fun v H4 hv k4 => ?_⟩
          obtain ⟨x, hx, hxr⟩ := pMemL pr3 hv
          obtain ⟨t, rfl, ht⟩ := persPr _ _ _ _ (k4.kt k3.box) hxr
          have hxb := kb x (pm.mem_iff.mp hx)
          have hk4 : H4 d = some (.dT kvs) := k4.same _ _ hk3 hdb
          refine ⟨t, rfl, ⟨_, SqT.of ht⟩, for_tup (K := K) (a := t) (xs := [pI x.1, pI x.2]) (fun j σ H5 => ∃ v6, σ = [some (.ref b), some (pI n), some (.ref d), some (.int (1 + i)), some (.ref p), some (.int how), v6] ∧ Kp b l H H5 ∧ H5 t = some (.tup [pI x.1, pI x.2]) ∧ ∃ kvs, H5 d = some (.dT kvs) ∧ KeysIn n kvs)
            ⟨_, rfl, k13.trans k4, ht, kvs, hk4, ki⟩ (fun j σ H5 _ ⟨_, _, _, h5, _⟩ => SqT.of h5) ?_ ?_⟩
          · rintro j y σ H5 hy ⟨v6, rfl, k5, ht5, kvs5, hk5, ki5⟩
            obtain ⟨z, hz, rfl⟩ : ∃ z : Nat, z < n ∧ y = pI z := by
              match j, hy with
              | 0, hy => exact ⟨x.1, hxb.1, (Option.some.inj hy).symm⟩
              | 1, hy => exact ⟨x.2, hxb.2, (Option.some.inj hy).symm⟩
              | j + 2, hy => simp at hy
            refine ⟨_, rfl, _, rfl, _, rfl, by show 2 ≤ sizeLine; decide, fun t2 h2 => ?_⟩
            refine ⟨d, _, rfl, dputP (x := (z, 1 + i)) (by rw [upd_ne (ne_of_none hk5 h2)]; exact hk5) upd_same rfl (by simp) (keys_small ki5 hn), ?_⟩
            refine ⟨_, rfl, (k5.new h2).put hb hd, ?_, _, upd_same, ki5.put ⟨hz, by show 1 + i < n; omega⟩⟩
            rw [upd_ne (ne_of ht5 hk5 (by intro z; cases z)), upd_ne (ne_of_none ht5 h2)]
            exact ht5
          · rintro σ H5 ⟨v6, rfl, k5, ht5, kvs5, hk5, ki5⟩
            exact ⟨_, _, _, _, rfl, k5, kvs5, hk5, ki5⟩
        · refine ⟨_, rfl, _, _, rfl, rfl, _, rfl, ifD (fun c => ?_) (fun c => ?_)⟩
          · refine ⟨_, rfl, _, rfl, _, rfl, b, l, _, rfl, k3.box, by omega, by omega, fun z H4 z0 z1 k4 => ?_⟩
            have hk4 : H4 d = some (.dT kvs) := k4.same _ _ hk3 hdb
            refine ⟨_, rfl, by show 2 ≤ sizeLine; decide, fun t2 h2 => ?_⟩
            refine ⟨d, _, rfl, dputP (x := (z.toNat, 1 + i)) (by rw [upd_ne (ne_of_none hk4 h2)]; exact hk4) upd_same (by simp; omega) (by simp) (keys_small ki hn), ?_⟩
            exact ⟨_, _, _, _, rfl, ((k13.trans k4).new h2).put hb hd, _, upd_same, ki.put ⟨by show z.toNat < n; omega, by show 1 + i < n; omega⟩⟩
          · exact fin _ k13 hk3
      · refine ⟨_, rfl, _, _, rfl, rfl, _, rfl, ifD (fun c => ?_) (fun c => ?_)⟩
        · refine ⟨_, rfl, _, rfl, _, rfl, b, l, _, rfl, k3.box, by omega, by omega, fun z H4 z0 z1 k4 => ?_⟩
          have hk4 : H4 d = some (.dT kvs) := k4.same _ _ hk3 hdb
          refine ⟨_, rfl, by show 2 ≤ sizeLine; decide, fun t2 h2 => ?_⟩
          refine ⟨d, _, rfl, dputP (x := (z.toNat, 1 + i)) (by rw [upd_ne (ne_of_none hk4 h2)]; exact hk4) upd_same (by simp; omega) (by simp) (keys_small ki hn), ?_⟩
          exact ⟨_, _, _, _, rfl, ((k13.trans k4).new h2).put hb hd, _, upd_same, ki.put ⟨by show z.toNat < n; omega, by show 1 + i < n; omega⟩⟩
        · exact fin _ k13 hk3
    · rintro σ H1 ⟨v4, v5, v6, v7, rfl, k1, kvs, hk, ki⟩
      walk_at "rd"
      exact q d kvs H1 hd hk ki k1
/-! ### a net of one of eight sorts -/
def sp_net : Sp := fun vs H Q _ => ∃ (b l : Addr) (most : Nat), vs = [.ref b, pI most] ∧ most ≤ 900 ∧ Box H b l ∧ ∀ (v : V) (n : Nat) (ties : List (Nat × Nat)) (H' : Hp), n ≤ most → Good n ties → Net H' v n ties → Kp b l H H' → Q v H'
theorem cal_net (A : At K mg "_law_net" s_law_net) (B : Bi mg) (c_law_take : Cal P w K mg base 1 "_law_take" sp_take) (c_law_pick : Cal P w K mg base 2 "_law_pick" (sp_pick K)) (c_law_pairs : Cal P w K mg base 1 "_law_pairs" sp_pairs) (c_law_made : Cal P w K mg base 2 "_law_made" sp_made)
    (c_law_by_stretches : Cal P w K mg base 2 "_law_by_stretches" spBy) (c_law_by_lines : Cal P w K mg base 3 "_law_by_lines" spBy) (c_law_by_twins : Cal P w K mg base 2 "_law_by_twins" spBy) (c_law_by_sewing : Cal P w K mg base 3 "_law_by_sewing" spBy) : Cal P w K mg base 4 "_law_net" sp_net := by
  have nd := sc_law_net.nd
  refine A.cal sc_law_net (fun _ _ _ _ _ _ us hl => match us, hl with | [_, _], _ => rfl) ?_ fun f cdv A' outer s H vs Q E hr h => ⟨_, (pss_cons (ps_par3 (i := 2) (j := 3) (l := 4) rfl nd rfl rfl rfl (by decide) (by decide) (by decide) rfl rfl rfl (pa_cons (pe_cal c_law_take hr (by decide) (by rfl) passE (pa_cons (pv 0) (pa_cons (pe_op op_add (pv 1) pe_int) pa_nil))) (pa_cons (pe_cal c_law_take hr (by decide) (by rfl) passE (pa_cons (pv 0) (pa_cons pe_int pa_nil))) (pa_cons pe_dnewT pa_nil))) (by rfl))
  (C8.pss_cut (ps_if (pt_cmpR op_eq (pv 3) pe_int (nomark _)) (pss_one (ps_set (i := 4) nd rfl (.inl rfl) (pe_cal c_law_by_stretches hr (by decide) (by rfl) passE (pa_cons (pv 0) (pa_cons (pv 2) pa_nil))))) (pss_one (ps_if (pt_cmpR op_eq (pv 3) pe_int (nomark _)) (pss_one (ps_set (i := 4) nd rfl (.inl rfl) (pe_cal c_law_by_lines hr (by decide) (by rfl) passE (pa_cons (pv 0) (pa_cons (pv 2) pa_nil))))) (pss_one (ps_if (pt_cmpR op_eq (pv 3) pe_int (nomark _)) (pss_one (ps_set (i := 4) nd rfl (.inl rfl) (pe_cal c_law_by_twins hr (by decide) (by rfl) passE (pa_cons (pv 0) (pa_cons (pv 2) pa_nil))))) (pss_one (ps_if (pt_cmpR op_eq (pv 3) pe_int (nomark _)) (pss_one (ps_set (i := 4) nd rfl (.inl rfl) (pe_cal c_law_by_sewing hr (by decide) (by rfl) passE (pa_cons (pv 0) (pa_cons (pv 2) pa_nil))))) (pss_cons (ps_setLc (i := 5) (own := [("x", 6)]) rfl nd rfl rfl (sw_true rfl rfl rfl (by decide +kernel)) (pi_range1 (by rfl) B.range (pa_cons (pv 2) pa_nil)) (blkOk_by (own := [("x", 6)]) (N := N_law_net) (sc := defScope s_law_net) (by decide +kernel)) (fun _ _ _ _ _ => (pg_name (i := 6) nd rfl (.inl rfl) (.inr rfl))) (fun _ _ _ _ _ => pts_nil) (fun _ _ _ _ _ => (pe_cal c_law_take hr (by decide) (by rfl) passL (pa_cons (pv 0) (pa_cons pe_int pa_nil)))))
  (pss_one (ps_for passOwn rfl (pi_listK (K := K) rfl (pe_cal c_law_pairs hr (by decide) (by rfl) passE (pa_cons (pv 2) pa_nil))) (pg_tupK (K := K) (n := 2) rfl rfl (pgs_cons (pg_name (i := 6) nd rfl (.inl rfl)) (pgs_cons (pg_name (i := 7) nd rfl (.inl rfl)) pgs_nil))) (pss_cons (ps_set (i := 8) nd rfl (.inl rfl) (pe_cal c_law_take hr (by decide) (by rfl) passE (pa_cons (pv 0) (pa_cons pe_int pa_nil))))
  (pss_one (ps_if (PW.pt (pw_and (pt_cmpR op_lt (pv 8) (pe_ix (ix_listK (K := K) rfl) (pe_lst (pa_cons pe_int (pa_cons pe_int (pa_cons pe_int pa_nil)))) (pe_op op_mod (pv 3) pe_int) (fun _ _ => rfl)) (nomark _)) (pw_and1 (PW.pt (pw_or (pt_cmpR op_ne (pv 3) pe_int (nomark _)) (pw_or1 (pt_cmpR op_ne (pe_ix (ix_listK (K := K) rfl) (pv 5) (pv 6) (fun _ _ => rfl)) (pe_ix (ix_listK (K := K) rfl) (pv 5) (pv 7) (fun _ _ => rfl)) (nomark _)))))))) (pss_one (ps_dput (hu_of hr) (pv 4) (pe_tup (pa_cons (pv 6) (pa_cons (pv 7) pa_nil))) pe_bl rfl)) pss_nil)))))))))))))
  (pss_cons (ps_for passOwn rfl (pi_range1 (by rfl) B.range (pa_cons (pe_cal c_law_take hr (by decide) (by rfl) passE (pa_cons (pv 0) (pa_cons pe_int pa_nil))) pa_nil)) (pg_name (i := 9) nd rfl (.inl rfl)) (pss_one (ps_if (pt_cmpR op_gt (pv 2) pe_int (nomark _)) (pss_cons (ps_set (i := 10) nd rfl (.inl rfl) (pe_cal c_law_pick hr (by decide) (by rfl) passE (pa_cons (pv 0) (pa_cons (pe_cal c_law_pairs hr (by decide) (by rfl) passE (pa_cons (pv 2) pa_nil)) pa_nil))))
  (pss_one (ps_if (pt_cmp (pc_din (hu_of hr) (pv 10) (pv 4)) rfl) (pss_one (ps_expr (pe_bm PySem.F.plainAttrs_dict PySem.F.slot_dict_pop PySem.F.type_dict_pop (mt_pop1T (hu_of hr)) (pv 4) (pa_cons (pv 10) pa_nil)))) (pss_one (ps_dput (hu_of hr) (pv 4) (pv 10) pe_bl rfl))))) pss_nil)))
  (pss_one (ps_ret (pe_cal c_law_made hr (by decide) (by rfl) passE (pa_cons (pv 2) (pa_cons (pv 4) pa_nil)))))))), ?_⟩
  · rintro vs H Q E ⟨b, l, n, rfl, _⟩
    rfl
  · obtain ⟨b, l, most, rfl, hm, hb, q⟩ := h
    -- n, sort, there
    refine ⟨_, rfl, _, rfl, _, _, rfl, rfl, b, l, _, rfl, hb, by omega, by omega, fun r H1 r0 r1 k1 => ?_⟩
    obtain ⟨n, rfl⟩ : ∃ n : Nat, r = n := ⟨r.toNat, by omega⟩
    refine ⟨_, rfl, b, l, _, rfl, k1.box, by omega, by omega, fun so H2 so0 so1 k2 => ?_⟩
    intro d0 hd0
    have k3 := (k1.trans k2).new (o := .dT []) hd0
    have hn : n ≤ 1000 := by omega
    refine ⟨_, _, _, rfl, ?_⟩
    have hd0' : H d0 = none := (k1.trans k2).free hb hd0
    generalize hH3 : upd H2 d0 (.dT []) = H3 at k3 ⊢
    have hk3 : H3 d0 = some (.dT []) := by rw [← hH3]; exact upd_same
    refine ⟨fun σ' H' => ∃ (d : Addr) (v5 v6 v7 v8 : Option V), σ' = [some (.ref b), some (pI most), some (pI n), some (.int so), some (.ref d), v5, v6, v7, v8, none, none] ∧ H d = none ∧ Kp b l H H' ∧ ∃ kvs, H' d = some (.dT kvs) ∧ KeysIn n kvs, ?_, ?_⟩
    · refine ⟨_, rfl, rfl, _, rfl, ifI (fun c => ?_) (fun c => ?_)⟩
      · refine ⟨_, rfl, _, rfl, b, l, n, rfl, hn, k3.box, fun d kvs H5 hd hk ki k5 => ?_⟩
        exact ⟨d, _, _, _, _, rfl, k3.free hb hd, k3.trans k5, kvs, hk, ki⟩
      refine ⟨_, rfl, rfl, _, rfl, ifI (fun c => ?_) (fun c => ?_)⟩
      · refine ⟨_, rfl, _, rfl, b, l, n, rfl, hn, k3.box, fun d kvs H5 hd hk ki k5 => ?_⟩
        exact ⟨d, _, _, _, _, rfl, k3.free hb hd, k3.trans k5, kvs, hk, ki⟩
      refine ⟨_, rfl, rfl, _, rfl, ifI (fun c => ?_) (fun c => ?_)⟩
      · refine ⟨_, rfl, _, rfl, b, l, n, rfl, hn, k3.box, fun d kvs H5 hd hk ki k5 => ?_⟩
        exact ⟨d, _, _, _, _, rfl, k3.free hb hd, k3.trans k5, kvs, hk, ki⟩
      refine ⟨_, rfl, rfl, _, rfl, ifI (fun c => ?_) (fun c => ?_)⟩
      · refine ⟨_, rfl, _, rfl, b, l, n, rfl, hn, k3.box, fun d kvs H5 hd hk ki k5 => ?_⟩
        exact ⟨d, _, _, _, _, rfl, k3.free hb hd, k3.trans k5, kvs, hk, ki⟩
      -- the drawn sides
      refine ⟨_, rfl, _, rfl, by omega, by omega, fun D hD => ?_⟩
      have hDd : D ≠ d0 := fun e => by rw [e, hk3] at hD; cases hD
      have hDb : D ≠ b := box_ne k3.box hD
      have hD0 : H D = none := k3.free hb hD
      refine lc_range (lo := 0) (n := n) (fun i H4 => Kp b l H H4 ∧ H4 d0 = some (.dT []) ∧ ∃ zs : List Int, H4 D = some (.lst (zs.map V.int)) ∧ zs.length = i) ⟨k3.new hD, by rw [upd_ne hDd.symm]; exact hk3, [], upd_same, rfl⟩ ?_ ?_
      · rintro i H4 hi ⟨k4, hk4, zs, hz, lz⟩
        refine ⟨rfl, _, rfl, b, l, _, rfl, k4.box, by decide, by decide, fun z H5 z0 z1 k5 => ?_⟩
        have hz5 : H5 D = some (.lst (zs.map V.int)) := k5.same _ _ hz hDb
        refine ⟨_, hz5, by rw [List.length_map]; exact sizeBig (by omega), (k4.trans k5).put hb hD0, ?_, zs ++ [z], ?_, by simp [lz]⟩
        · rw [upd_ne hDd.symm]
          exact k5.same _ _ hk4 (box_ne hb hd0')
        · rw [upd_same]
          simp
      · rintro H4 ⟨k4, hk4, zs, hz, lz⟩
        have hside : ∀ x : Nat, x < n → ∃ z : Int, atI (zs.map V.int) (x : Int) = some (.int z) := fun x hx => by
          have hy : (zs.map V.int)[x]? = some (.int zs[x]) := by simp [show x < zs.length by omega]
          exact ⟨_, atI_nat hy⟩
        obtain ⟨z3, hz3⟩ : ∃ z : Int, atI [V.int 2, V.int 1, V.int 3] (so % 3) = some (.int z) := by
          have h3 : so % 3 = 0 ∨ so % 3 = 1 ∨ so % 3 = 2 := by omega
          rcases h3 with h3 | h3 | h3 <;> rw [h3] <;> exact ⟨_, rfl⟩
        -- for x, y in pairs
        refine ⟨_, rfl, n, rfl, hn, fun pp ps H5 sm5 np hps prs => ?_⟩
        have hk5 : H5 d0 = some (.dT []) := sm5 _ _ hk4
        have hz5 : H5 D = some (.lst (zs.map V.int)) := sm5 _ _ hz
        have k5 : Kp b l H H5 := k4.then sm5
        have hpb : pp ≠ b := box_ne k4.box np
        have hpd : pp ≠ d0 := fun e => by rw [e, hk4] at np; cases np
        refine ⟨pp, rfl, ⟨_, SqL.of hps⟩, for_list (K := K) (a := pp) (xs := ps) (fun i σ H6 => ∃ v6 v7 v8, σ = [some (.ref b), some (pI most), some (pI n), some (.int so), some (.ref d0), some (.ref D), v6, v7, v8, none, none] ∧ Kp b l H H6 ∧ (∀ a o, H5 a = some o → a ≠ b → a ≠ d0 → H6 a = some o) ∧ ∃ kvs, H6 d0 = some (.dT kvs) ∧ KeysIn n kvs)
          ⟨_, _, _, rfl, k5, fun a o h _ _ => h, [], hk5, KeysIn.nil⟩ (fun i σ H6 _ ⟨_, _, _, _, _, sx, _⟩ => SqL.of (sx _ _ hps hpb hpd)) ?_ ?_⟩
        · rintro i v σ H6 hv ⟨v6, v7, v8, rfl, k6, sx, kvs, hk, ki⟩
          obtain ⟨x, hx, hxr⟩ := pAtL prs hv
          have kt : KeepT H5 H6 := fun a xs e => sx a _ e (fun e2 => by
            obtain ⟨_, _, _, _, g, _⟩ := k5.box
            rw [e2, g] at e
            cases e) (ne_of e hk5 (by intro z; cases z))
          obtain ⟨t, rfl, ht⟩ := persPr _ _ _ _ kt hxr
          have hxp := mem_allPairs.mp (List.mem_of_getElem? hx)
          have hz6 : H6 D = some (.lst (zs.map V.int)) := sx _ _ hz5 hDb hDd
          obtain ⟨sx1, hsx1⟩ := hside x.1 (by omega)
          obtain ⟨sx2, hsx2⟩ := hside x.2 (by omega)
          refine ⟨t, _, rfl, SqT.of ht, rfl, _, _, rfl, _, _, rfl, rfl, ?_⟩
          refine ⟨_, rfl, b, l, _, rfl, k6.box, by decide, by decide, fun dr H7 dr0 dr1 k7 => ?_⟩
          have k67 := k6.trans k7
          have hdb := box_ne hb hd0'
          have hk7 : H7 d0 = some (.dT kvs) := k7.same _ _ hk hdb
          have hz7 : H7 D = some (.lst (zs.map V.int)) := k7.same _ _ hz6 hDb
          have sx7 : ∀ a o, H5 a = some o → a ≠ b → a ≠ d0 → H7 a = some o := fun a o h n1 n2 => k7.same _ _ (sx a o h n1 n2) n1
          refine ⟨_, rfl, by show 3 ≤ sizeLine; decide, fun q3 hq3 => ?_⟩
          have k8 := k67.new (o := .lst [.int 2, .int 1, .int 3]) hq3
          have hk8 : (upd H7 q3 (.lst [.int 2, .int 1, .int 3])) d0 = some (.dT kvs) := by rw [upd_ne (ne_of_none hk7 hq3)]; exact hk7
          have hz8 : (upd H7 q3 (.lst [.int 2, .int 1, .int 3])) D = some (.lst (zs.map V.int)) := by rw [upd_ne (ne_of_none hz7 hq3)]; exact hz7
          have sx8 : ∀ a o, H5 a = some o → a ≠ b → a ≠ d0 → (upd H7 q3 (.lst [.int 2, .int 1, .int 3])) a = some o := fun a o h n1 n2 => by
            have := sx7 a o h n1 n2
            rw [upd_ne (ne_of_none this hq3)]
            exact this
          have hq8 : (upd H7 q3 (.lst [.int 2, .int 1, .int 3])) q3 = some (.lst [.int 2, .int 1, .int 3]) := upd_same
          generalize upd H7 q3 (.lst [.int 2, .int 1, .int 3]) = H8 at k8 hk8 hz8 sx8 hq8 ⊢
          refine ⟨_, rfl, _, _, rfl, rfl, by omega, q3, _, _, _, rfl, rfl, SqL.of hq8, hz3, ?_⟩
          have no : ∃ w6 w7 w8, [some (V.ref b), some (pI most), some (pI n), some (.int so), some (.ref d0), some (.ref D), some (pI x.1), some (pI x.2), some (.int dr), none, none] = [some (V.ref b), some (pI most), some (pI n), some (.int so), some (.ref d0), some (.ref D), w6, w7, w8, none, none] ∧ Kp b l H H8 ∧ (∀ a o, H5 a = some o → a ≠ b → a ≠ d0 → H8 a = some o) ∧ ∃ kvs, H8 d0 = some (.dT kvs) ∧ KeysIn n kvs := ⟨_, _, _, rfl, k8, sx8, kvs, hk8, ki⟩
          have put : ∀ (t2 : Addr), H8 t2 = none → ∃ w6 w7 w8, [some (V.ref b), some (pI most), some (pI n), some (.int so), some (.ref d0), some (.ref D), some (pI x.1), some (pI x.2), some (.int dr), none, none] = [some (V.ref b), some (pI most), some (pI n), some (.int so), some (.ref d0), some (.ref D), w6, w7, w8, none, none] ∧ Kp b l H (upd (upd H8 t2 (.tup [pI x.1, pI x.2])) d0 (.dT (putK kvs (key x) (.bl true)))) ∧ (∀ a o, H5 a = some o → a ≠ b → a ≠ d0 → (upd (upd H8 t2 (.tup [pI x.1, pI x.2])) d0 (.dT (putK kvs (key x) (.bl true)))) a = some o) ∧ ∃ kvs', (upd (upd H8 t2 (.tup [pI x.1, pI x.2])) d0 (.dT (putK kvs (key x) (.bl true)))) d0 = some (.dT kvs') ∧ KeysIn n kvs' := fun t2 h2 =>
            ⟨_, _, _, rfl, (k8.new h2).put hb hd0', fun a o h n1 n2 => by
              have := sx8 a o h n1 n2
              rw [upd_ne n2, upd_ne (ne_of_none this h2)]
              exact this, _, upd_same, ki.put ⟨by omega, hxp.2⟩⟩
          refine ⟨_, _, rfl, rfl, _, rfl, ifD (fun c => ?_) (fun c => ?_)⟩
          · refine ⟨_, rfl, rfl, _, rfl, ifNI (fun c => ?_) (fun c => ?_)⟩
            · refine iteT ?_
              refine ⟨_, rfl, _, rfl, _, rfl, by show 2 ≤ sizeLine; decide, fun t2 h2 => ?_⟩
              exact ⟨d0, _, rfl, dputP (x := x) (by rw [upd_ne (ne_of_none hk8 h2)]; exact hk8) upd_same rfl rfl (keys_small ki hn), put t2 h2⟩
            · refine ⟨_, rfl, _, rfl, D, _, _, _, rfl, rfl, SqL.of hz8, hsx1, _, rfl, _, rfl, D, _, _, _, rfl, rfl, SqL.of hz8, hsx2, rfl, _, rfl, ifNI (fun c => ?_) (fun c => ?_)⟩
              · refine ⟨_, rfl, _, rfl, _, rfl, by show 2 ≤ sizeLine; decide, fun t2 h2 => ?_⟩
                exact ⟨d0, _, rfl, dputP (x := x) (by rw [upd_ne (ne_of_none hk8 h2)]; exact hk8) upd_same rfl rfl (keys_small ki hn), put t2 h2⟩
              · exact no
          · exact no
        · rintro σ H6 ⟨v6, v7, v8, rfl, k6, sx, kvs, hk, ki⟩
          exact ⟨d0, _, _, _, _, rfl, hd0', k6, kvs, hk, ki⟩
    · rintro σ' H4 ⟨d, v5, v6, v7, v8, rfl, hd, k4, hkk⟩
      have hdb := box_ne hb hd
      refine ⟨_, rfl, b, l, _, rfl, k4.box, by decide, by decide, fun tn H5 t0 t1 k5 => ?_⟩
      refine ⟨_, rfl, by omega, by omega, for_range (lo := 0) (n := tn.toNat) (fun i σ H6 => ∃ v9 v10, σ = [some (.ref b), some (pI most), some (pI n), some (.int so), some (.ref d), v5, v6, v7, v8, v9, v10] ∧ Kp b l H H6 ∧ ∃ kvs, H6 d = some (.dT kvs) ∧ KeysIn n kvs) ?_ ?_ ?_⟩
      · exact ⟨_, _, rfl, k4.trans k5, hkk.elim fun kvs hk => ⟨kvs, k5.same _ _ hk.1 hdb, hk.2⟩⟩
      · rintro i σ H6 hi ⟨v9, v10, rfl, k6, kvs, hk, ki⟩
        refine ⟨_, rfl, _, _, rfl, rfl, _, rfl, ifD (fun c => ?_) (fun c => ?_)⟩
        · refine ⟨_, rfl, _, rfl, n, rfl, hn, fun pp ps H7 sm7 np hps prs => ?_⟩
          have lp := Paired.length prs
          have lp2 := allPairs_len n
          have lp3 : n * n ≤ 1000 * 1000 := Nat.mul_le_mul hn hn
          have hne : ps ≠ [] := fun e => by
            have hmem : (0, 1) ∈ allPairs n := mem_allPairs.mpr ⟨by decide, by show 1 < n; omega⟩
            rw [e, List.length_nil] at lp
            rw [List.eq_nil_of_length_eq_zero lp.symm] at hmem
            cases hmem
          have k7 := k6.then sm7
          refine ⟨b, l, pp, ps, rfl, k7.box, .inl ⟨hps, box_ne k6.box np⟩, hne, by omega, fun v H8 hv k8 => ?_⟩
          obtain ⟨x, hx, hxr⟩ := pMemL prs hv
          obtain ⟨t, rfl, ht⟩ := persPr _ _ _ _ (k8.kt k7.box) hxr
          have hxp := mem_allPairs.mp hx
          have hk8 : H8 d = some (.dT kvs) := k8.same _ _ (sm7 _ _ hk) hdb
          have k68 := k7.trans k8
          refine ⟨_, rfl, _, rfl, d, _, rfl, dgetP (x := x) hk8 ht rfl rfl, _, rfl, ifB (fun c => ?_) (fun c => ?_)⟩
          · obtain ⟨v0, hv0⟩ := Option.isSome_iff_exists.mp c
            refine ⟨_, rfl, .inr (.inr (.inl ⟨rfl, .inr ⟨_, hk8⟩⟩)), _, rfl, d, kvs, key x, t, v0, rfl, rfl, hk8, ht, hv0, ?_⟩
            exact ⟨_, _, rfl, k68.put hb hd, _, upd_same, ki.drop⟩
          · refine ⟨_, rfl, _, rfl, d, _, rfl, dputP (x := x) hk8 ht rfl rfl (keys_small ki hn), ?_⟩
            exact ⟨_, _, rfl, k68.put hb hd, _, upd_same, ki.put ⟨by omega, hxp.2⟩⟩
        · exact ⟨_, _, rfl, k6, kvs, hk, ki⟩
      · rintro σ H6 ⟨v9, v10, rfl, k6, kvs, hk, ki⟩
        refine ⟨_, rfl, _, rfl, n, d, kvs, rfl, hn, hk, fun v H7 sm7 nt => ?_⟩
        exact q v n _ H7 (by omega) (Good.filter _) nt (k6.then sm7)
end
end Ns

/-! Own layer V: any data as values: their types, what a net is. -/
namespace Ns
open PySem PySem.Spec PyProof.Rows L2
def tyName : PyData → String
  | .none => "NoneType"
  | .bool _ => "bool"
  | .int _ => "int"
  | .str _ => "str"
  | .list _ => "list"
  | .tuple _ => "tuple"
  | .dict _ => "dict"
theorem tyX_of {K : PySem.W.Frag} {H : Hp} {v : V} {d : PyData} (h : Dp K H v d) : TyX K H v (.type (tyName d)) := by
  cases h with
  | non => exact .base .non
  | bl b => exact .base (.bl b)
  | int i => exact .base (.int i)
  | str x => exact .base (.str x)
  | lst h _ =>
    rcases h with (h | ⟨o, h⟩) | ⟨o, its, n, h, c, _⟩
    · exact .base (.lst h)
    · exact .base (.frz h)
    · exact .kList h c
  | tup h _ =>
    rcases h with (h | ⟨o, h⟩) | ⟨o, its, n, h, c, _⟩
    · exact .base (.tup h)
    · exact .fTuple h
    · exact .kTuple h c
/-- isinstance of data by the name of its type -/
def isiB (d : PyData) (T : String) : Bool := (kitB (tyName d) T).getD false
theorem kit_isi (d : PyData) (T : String) (h : T = "int" ∨ T = "bool" ∨ T = "str" ∨ T = "tuple" ∨ T = "list" ∨ T = "dict") : kitB (tyName d) T = some (isiB d T) := by
  have e : (kitB (tyName d) T).isSome = true := by
    rcases h with rfl | rfl | rfl | rfl | rfl | rfl <;> cases d <;> simp only [tyName] <;> decide +kernel
  obtain ⟨b, hb⟩ := Option.isSome_iff_exists.mp e
  unfold isiB
  rw [hb]
  rfl
theorem isiD {K : PySem.W.Frag} {H : Hp} {v : V} {d : PyData} {T : String} {Q : VK} (h : Dp K H v d) (hT : T = "int" ∨ T = "bool" ∨ T = "str" ∨ T = "tuple" ∨ T = "list" ∨ T = "dict") (q : Q (.bl (isiB d T)) H) : rIsi K [v, .ty T] H Q :=
  ⟨v, .ty T, .type (tyName d), .type T, _, rfl, .ty T, tyX_of h, kit_ty (kit_isi d T hT), q⟩
theorem isi_tuple (d : PyData) : isiB d "tuple" = (match d with | .tuple _ => true | _ => false) := by
  cases d <;> simp only [isiB, tyName] <;> decide +kernel
theorem isi_list (d : PyData) : isiB d "list" = (match d with | .list _ => true | _ => false) := by
  cases d <;> simp only [isiB, tyName] <;> decide +kernel
theorem isi_int (d : PyData) : isiB d "int" = (match d with | .int _ => true | .bool _ => true | _ => false) := by
  cases d <;> simp only [isiB, tyName] <;> decide +kernel
theorem isi_bool (d : PyData) : isiB d "bool" = (match d with | .bool _ => true | _ => false) := by
  cases d <;> simp only [isiB, tyName] <;> decide +kernel
theorem isi_str (d : PyData) : isiB d "str" = (match d with | .str _ => true | _ => false) := by
  cases d <;> simp only [isiB, tyName] <;> decide +kernel
theorem DpAll.len {K : PySem.W.Frag} {H : Hp} : ∀ {vs : List V} {ds : List PyData}, DpAll K H vs ds → vs.length = ds.length
  | _, _, .nil => rfl
  | _, _, .cons _ t => congrArg Nat.succ (DpAll.len t)
theorem dpAt {K : PySem.W.Frag} {H : Hp} : ∀ {vs : List V} {ds : List PyData} {i : Nat} {v : V}, DpAll K H vs ds → vs[i]? = some v → ∃ d, ds[i]? = some d ∧ Dp K H v d
  | _, _, _, _, .nil, h => by simp at h
  | _, _, 0, _, .cons h _, e => by simp at e; subst e; exact ⟨_, rfl, h⟩
  | _, _, i + 1, _, .cons _ t, e => by
    obtain ⟨d, h1, h2⟩ := dpAt (i := i) t (by simpa using e)
    exact ⟨d, by simpa using h1, h2⟩
theorem dpAt2 {K : PySem.W.Frag} {H : Hp} : ∀ {vs : List V} {ds : List PyData} {i : Nat} {d : PyData}, DpAll K H vs ds → ds[i]? = some d → ∃ v, vs[i]? = some v ∧ Dp K H v d
  | _, _, _, _, .nil, h => by simp at h
  | _, _, 0, _, .cons h _, e => by simp at e; subst e; exact ⟨_, rfl, h⟩
  | _, _, i + 1, _, .cons _ t, e => by
    obtain ⟨v, h1, h2⟩ := dpAt2 (i := i) t (by simpa using e)
    exact ⟨v, by simpa using h1, h2⟩
theorem sqT_same {K : PySem.W.Frag} {H H' : Hp} {a : Addr} {xs : List V} (k : Same H H') (h : SqT K H a xs) : SqT K H' a xs := by
  rcases h with (h | ⟨o, h⟩) | h
  · exact .inl (.inl (k _ _ h))
  · exact .inl (.inr ⟨o, k _ _ h⟩)
  · exact .inr h
mutual
theorem Dp.same {K : PySem.W.Frag} {H H' : Hp} (k : Same H H') : ∀ (d : PyData) (v : V), Dp K H v d → Dp K H' v d
  | .none, _, .non => .non
  | .bool b, _, .bl _ => .bl b
  | .int i, _, .int _ => .int i
  | .str x, _, .str _ => .str x
  | .list ds, _, .lst h t => .lst (Same.seq k h) (DpAll.same k ds _ t)
  | .tuple ds, _, .tup h t => .tup (sqT_same k h) (DpAll.same k ds _ t)
theorem DpAll.same {K : PySem.W.Frag} {H H' : Hp} (k : Same H H') : ∀ (ds : List PyData) (vs : List V), DpAll K H vs ds → DpAll K H' vs ds
  | [], _, .nil => .nil
  | d :: ds, _, .cons h t => .cons (Dp.same k d _ h) (DpAll.same k ds _ t)
end
/-! ### what is a number, a pair, a net -/
def isNumD : PyData → Bool
  | .int _ => true
  | _ => false
def isPairD : PyData → Bool
  | .tuple [.int _, .int _] => true
  | _ => false
def okFrom (n : Int) : Int × Int → List PyData → Bool
  | _, [] => true
  | b, .tuple [.int x, .int y] :: r => (decide (0 ≤ x ∧ x < y ∧ y < n) && HT.lexLt [b.1, b.2] [x, y]) && okFrom n (x, y) r
  | _, _ :: _ => false
def isNetD : PyData → Bool
  | .tuple [.int n, .tuple ps] => decide (0 ≤ n ∧ n ≤ 40) && okFrom n (-1, -1) ps
  | _ => false
end Ns

/-! Own layer P: the program's looks at nets. -/
namespace Ns
open PySem PySem.Spec PyProof.Rows L2
local macro_rules | `(tactic| walk_at "look") => `(tactic| first | assumption | exact upd_same | (refine (upd_ne (by first | assumption | exact Ne.symm (by assumption))).trans ?_; walk_at "look"))
local macro_rules | `(tactic| walk_at "cond") => `(tactic| first | assumption | omega | (dsimp only; omega) | exact ⟨by omega, by omega⟩ | decide | exact ⟨by decide, by decide, by decide⟩ | exact .inr ⟨by decide, by decide⟩ | exact .inl ⟨by decide, by decide⟩ | exact .inr ⟨by omega, by omega⟩ | exact .inl ⟨by omega, by omega⟩)
local macro_rules | `(tactic| walk_at "rd1") => `(tactic| first
  | refine ⟨_, rfl, ?_⟩
  | refine ⟨_, _, rfl, rfl, ?_⟩
  | refine ⟨rfl, ?_⟩
  | refine ⟨_, _, rfl, rfl, (by walk_at "cond"), ?_⟩
  | refine ⟨_, _, _, _, rfl, rfl, SqL.of (by walk_at "look"), rfl, ?_⟩
  | refine ⟨_, _, _, _, rfl, rfl, SqT.of (by walk_at "look"), rfl, ?_⟩
  | refine ⟨_, _, _, _, rfl, rfl, (by walk_at "look"), rfl, ?_⟩
  | refine .inl ⟨_, rfl, ?_⟩
  | refine ⟨.inl ⟨rfl, _, SqL.of (by walk_at "look")⟩, ?_⟩
  | refine ⟨_, _, rfl, ⟨by omega, by omega, by omega, by omega⟩, ?_⟩
  | refine ⟨_, rfl, (by omega), (by omega), ?_⟩
  | refine And.intro (by walk_at "cond") ?_)
local macro_rules | `(tactic| walk_at "rd") => `(tactic| repeat (walk_at "rd1"))

abbrev s_is_number : Stmt := top 5
abbrev N_is_number : List Str := ["x"]
theorem sc_is_number : FnScope N_is_number ["x"] (defScope s_is_number) := ⟨rfl, rfl, rfl, by decide +kernel, rfl, by decide +kernel, by decide +kernel⟩
abbrev s_is_pair : Stmt := top 6
abbrev N_is_pair : List Str := ["x"]
theorem sc_is_pair : FnScope N_is_pair ["x"] (defScope s_is_pair) := ⟨rfl, rfl, rfl, by decide +kernel, rfl, by decide +kernel, by decide +kernel⟩
abbrev s_is_net : Stmt := top 7
abbrev N_is_net : List Str := ["x", "before", "pair"]
theorem sc_is_net : FnScope N_is_net ["x"] (defScope s_is_net) := ⟨rfl, rfl, rfl, by decide +kernel, rfl, by decide +kernel, by decide +kernel⟩
abbrev s_check_net : Stmt := top 8
abbrev N_check_net : List Str := ["x"]
theorem sc_check_net : FnScope N_check_net ["x"] (defScope s_check_net) := ⟨rfl, rfl, rfl, by decide +kernel, rfl, by decide +kernel, by decide +kernel⟩
section
variable {P : Program} {w : World} {K : PySem.W.Frag} {mg : Str → Option Value} {base : Heap}
def sp_is_number (K : PySem.W.Frag) : Sp := fun vs H Q _ => ∃ (v : V) (d : PyData), vs = [v] ∧ Dp K H v d ∧ Q (.bl (isNumD d)) H
theorem cal_is_number (A : At K mg "is_number" s_is_number) (B : Bi mg) : Cal P w K mg base 1 "is_number" (sp_is_number K) := by
  have nd := sc_is_number.nd
  refine A.cal sc_is_number (fun _ _ _ _ _ _ us hl => match us, hl with | [_], _ => rfl) ?_ fun f cdv A' outer s H vs Q E hr h => ⟨_, (pss_one (ps_ret (pe_and (pe_callB (call_isiK' (K := K) rfl) (by rfl) B.isinstance (by decide +kernel) (pa_cons (pv 0) (pa_cons (pe_bltn (v := .ty "int") (u := .type "int") (by rfl) B.int_ (by decide +kernel) rfl) pa_nil))) (pe_one (pe_not (pe_callB (call_isiK' (K := K) rfl) (by rfl) B.isinstance (by decide +kernel) (pa_cons (pv 0) (pa_cons (pe_bltn (v := .ty "bool") (u := .type "bool") (by rfl) B.bool (by decide +kernel) rfl) pa_nil)))))))), ?_⟩
  · rintro vs H Q E ⟨v, d, rfl, _⟩
    rfl
  · obtain ⟨v, d, rfl, hd, q⟩ := h
    refine ⟨_, rfl, _, .ty "int", .type (tyName _), .type "int", _, rfl, .ty _, tyX_of hd, kit_ty (kit_isi _ "int" (by simp)), ?_⟩
    rw [isi_int]
    refine ⟨_, rfl, ifB (fun c => ?_) (fun c => ?_)⟩
    · refine ⟨_, rfl, _, .ty "bool", .type (tyName _), .type "bool", _, rfl, .ty _, tyX_of hd, kit_ty (kit_isi _ "bool" (by simp)), ?_⟩
      rw [isi_bool]
      refine ⟨_, rfl, ?_⟩
      cases d <;> first | exact q | cases c
    · cases d <;> first | exact q | cases c
def sp_is_pair (K : PySem.W.Frag) : Sp := fun vs H Q _ => ∃ (v : V) (d : PyData), vs = [v] ∧ Dp K H v d ∧ Q (.bl (isPairD d)) H
theorem cal_is_pair (A : At K mg "is_pair" s_is_pair) (B : Bi mg) (c_is_number : Cal P w K mg base 1 "is_number" (sp_is_number K)) : Cal P w K mg base 2 "is_pair" (sp_is_pair K) := by
  have nd := sc_is_pair.nd
  refine A.cal sc_is_pair (fun _ _ _ _ _ _ us hl => match us, hl with | [_], _ => rfl) ?_ fun f cdv A' outer s H vs Q E hr h => ⟨_, (pss_one (ps_ret (pe_and (pe_callB (call_isiK' (K := K) rfl) (by rfl) B.isinstance (by decide +kernel) (pa_cons (pv 0) (pa_cons (pe_bltn (v := .ty "tuple") (u := .type "tuple") (by rfl) B.tuple (by decide +kernel) rfl) pa_nil))) (pe_and (pe_cmpR op_eq (pe_callB (call_lenK (K := K) rfl) (by rfl) B.len (by decide +kernel) (pa_cons (pv 0) pa_nil)) pe_int (nomark _)) (pe_and (pe_cal c_is_number hr (by decide) (by rfl) passE (pa_cons (pe_ix (ix_seqK (K := K) rfl) (pv 0) pe_int (fun _ _ => rfl)) pa_nil)) (pe_one (pe_cal c_is_number hr (by decide) (by rfl) passE (pa_cons (pe_ix (ix_seqK (K := K) rfl) (pv 0) pe_int (fun _ _ => rfl)) pa_nil)))))))), ?_⟩
  · rintro vs H Q E ⟨v, d, rfl, _⟩
    rfl
  · obtain ⟨v, d, rfl, hd, q⟩ := h
    refine ⟨_, rfl, _, .ty "tuple", .type (tyName _), .type "tuple", _, rfl, .ty _, tyX_of hd, kit_ty (kit_isi _ "tuple" (by simp)), ?_⟩
    rw [isi_tuple]
    refine ⟨_, rfl, ifB (fun c => ?_) (fun c => ?_)⟩
    · cases hd with
      | tup hs ha =>
        rename_i a xs ds
        have hlen := DpAll.len ha
        refine ⟨_, rfl, _, _, rfl, .inr ⟨_, hs, rfl⟩, rfl, _, rfl, ifI (fun c2 => ?_) (fun c2 => ?_)⟩
        · have l2 : ds.length = 2 := by omega
          obtain ⟨d0, d1, rfl⟩ : ∃ d0 d1, ds = [d0, d1] := by
            match ds, l2 with
            | [d0, d1], _ => exact ⟨d0, d1, rfl⟩
          obtain ⟨v0, h0, g0⟩ := dpAt2 (i := 0) ha rfl
          obtain ⟨v1, h1, g1⟩ := dpAt2 (i := 1) ha rfl
          refine ⟨_, rfl, .inr (.inl ⟨_, _, _, _, rfl, rfl, hs, atI_nat (j := 0) h0, ?_⟩)⟩
          refine ⟨v0, d0, rfl, g0, _, rfl, ifB (fun c3 => ?_) (fun c3 => ?_)⟩
          · refine ⟨_, rfl, .inr (.inl ⟨_, _, _, _, rfl, rfl, hs, atI_nat (j := 1) h1, ?_⟩)⟩
            refine ⟨v1, d1, rfl, g1, ?_⟩
            have e : isPairD (.tuple [d0, d1]) = isNumD d1 := by
              cases d0 <;> first | (cases c3; done) | (cases d1 <;> rfl)
            rw [← e]
            exact q
          · have e : isPairD (.tuple [d0, d1]) = false := by
              cases d0 <;> first | (cases c3; done) | rfl
            rw [← e]
            exact q
        · have e : isPairD (.tuple ds) = false := by
            match ds, hlen with
            | [], _ => rfl
            | [_], _ => simp [isPairD]
            | [_, _], h => exact absurd (by rw [h]; rfl) c2
            | _ :: _ :: _ :: _, _ => simp [isPairD]
          rw [← e]
          exact q
      | _ => cases c
    · have e : isPairD d = false := by cases d <;> first | rfl | cases c
      rw [← e]
      exact q
/-! ### is_net -/
theorem okFrom_cons {n : Int} {b : Int × Int} {d : PyData} {r : List PyData} (h : isPairD d = false) : okFrom n b (d :: r) = false := by
  cases hh : okFrom n b (d :: r) with
  | false => rfl
  | true =>
    exfalso
    unfold okFrom at hh
    split at hh
    · rename_i e
      cases e
    · rename_i e
      cases e
      cases h
    · cases hh
def sp_is_net (K : PySem.W.Frag) : Sp := fun vs H Q _ => ∃ (v : V) (d : PyData), vs = [v] ∧ Dp K H v d ∧ ∀ H', Same H H' → Q (.bl (isNetD d)) H'
theorem cal_is_net (A : At K mg "is_net" s_is_net) (B : Bi mg) (hM : ∃ t, mg "MOST" = some (.int 40 t)) (c_is_number : Cal P w K mg base 1 "is_number" (sp_is_number K)) (c_is_pair : Cal P w K mg base 2 "is_pair" (sp_is_pair K)) : Cal P w K mg base 3 "is_net" (sp_is_net K) := by
  have nd := sc_is_net.nd
  obtain ⟨tM, c_MOST⟩ := hM
  refine A.cal sc_is_net (fun _ _ _ _ _ _ us hl => match us, hl with | [_], _ => rfl) ?_ fun f cdv A' outer s H vs Q E hr h => ⟨_, (pss_cons (ps_if (PW.pt (pw_or (pt_not (pt_val (pe_callB (call_isiK' (K := K) rfl) (by rfl) B.isinstance (by decide +kernel) (pa_cons (pv 0) (pa_cons (pe_bltn (v := .ty "tuple") (u := .type "tuple") (by rfl) B.tuple (by decide +kernel) rfl) pa_nil))))) (pw_or (pt_cmpR op_ne (pe_callB (call_lenK (K := K) rfl) (by rfl) B.len (by decide +kernel) (pa_cons (pv 0) pa_nil)) pe_int (nomark _)) (pw_or (pt_not (pt_val (pe_cal c_is_number hr (by decide) (by rfl) passE (pa_cons (pe_ix (ix_seqK (K := K) rfl) (pv 0) pe_int (fun _ _ => rfl)) pa_nil)))) (pw_or1 (pt_not (pt_val (pe_callB (call_isiK' (K := K) rfl) (by rfl) B.isinstance (by decide +kernel) (pa_cons (pe_ix (ix_seqK (K := K) rfl) (pv 0) pe_int (fun _ _ => rfl)) (pa_cons (pe_bltn (v := .ty "tuple") (u := .type "tuple") (by rfl) B.tuple (by decide +kernel) rfl) pa_nil)))))))))) (pss_one (ps_ret pe_bl)) pss_nil)
  (pss_cons (ps_if (pt_not (pt_chain op_le op_le pe_int (pe_ix (ix_seqK (K := K) rfl) (pv 0) pe_int (fun _ _ => rfl)) (pe_glob (v := .int 40) rfl c_MOST ⟨_, rfl⟩))) (pss_one (ps_ret pe_bl)) pss_nil)
  (pss_cons (ps_set (i := 1) nd rfl (.inl rfl) (pe_tup (pa_cons (pe_un un_neg pe_int) (pa_cons (pe_un un_neg pe_int) pa_nil))))
  (pss_cons (ps_for passOwn rfl (pi_tupK (K := K) rfl (pe_ix (ix_seqK (K := K) rfl) (pv 0) pe_int (fun _ _ => rfl))) (pg_name (i := 2) nd rfl (.inl rfl)) (pss_cons (ps_if (PW.pt (pw_or (pt_not (pt_val (pe_cal c_is_pair hr (by decide) (by rfl) passE (pa_cons (pv 2) pa_nil)))) (pw_or (pt_not (pt_chain3 op_le op_lt op_lt pe_int (pe_ix (ix_tupK (K := K) rfl) (pv 2) pe_int (fun _ _ => rfl)) (pe_ix (ix_tupK (K := K) rfl) (pv 2) pe_int (fun _ _ => rfl)) (pe_ix (ix_seqK (K := K) rfl) (pv 0) pe_int (fun _ _ => rfl)))) (pw_or1 (pt_not (pt_cmpR (op_ltTK (K := K) rfl hr.units0) (pv 1) (pv 2) (nomark _))))))) (pss_one (ps_ret pe_bl)) pss_nil)
  (pss_one (ps_set (i := 1) nd rfl (.inl rfl) (pv 2)))))
  (pss_one (ps_ret pe_bl)))))), ?_⟩
  · rintro vs H Q E ⟨v, d, rfl, _⟩
    rfl
  · obtain ⟨v, d, rfl, hd, q⟩ := h
    have no : isNetD d = false → Q (.bl false) H := fun e => by
      rw [← e]
      exact q H (Same.refl H)
    refine ⟨_, rfl, _, .ty "tuple", .type (tyName _), .type "tuple", _, rfl, .ty _, tyX_of hd, kit_ty (kit_isi _ "tuple" (by simp)), ?_⟩
    rw [isi_tuple]
    refine ⟨_, rfl, ?_⟩
    cases hd with
    | tup hs ha =>
      rename_i a xs ds
      have hlen := DpAll.len ha
      refine ⟨_, rfl, _, _, rfl, .inr ⟨_, hs, rfl⟩, rfl, _, rfl, ifNI (fun c2 => ?_) (fun c2 => ?_)⟩
      · refine iteT (no ?_)
        match ds, hlen with
        | [], _ => rfl
        | [_], _ => simp [isNetD]
        | [_, _], h => exact absurd (by rw [h]; rfl) c2
        | _ :: _ :: _ :: _, _ => simp [isNetD]
      · have l2 : ds.length = 2 := by omega
        obtain ⟨d0, d1, rfl⟩ : ∃ d0 d1, ds = [d0, d1] := by
          match ds, l2 with
          | [d0, d1], _ => exact ⟨d0, d1, rfl⟩
        obtain ⟨v0, h0, g0⟩ := dpAt2 (i := 0) ha rfl
        obtain ⟨v1, h1, g1⟩ := dpAt2 (i := 1) ha rfl
        have hx0 : atI xs 0 = some v0 := atI_nat (j := 0) h0
        have hx1 : atI xs 1 = some v1 := atI_nat (j := 1) h1
        refine ⟨_, rfl, .inr (.inl ⟨_, _, _, _, rfl, rfl, hs, hx0, v0, d0, rfl, g0, _, rfl, ?_⟩)⟩
        cases g0 with
        | int n =>
          refine ⟨_, rfl, .inr (.inl ⟨_, _, _, _, rfl, rfl, hs, hx1, _, .ty "tuple", .type (tyName _), .type "tuple", _, rfl, .ty _, tyX_of g1, kit_ty (kit_isi _ "tuple" (by simp)), ?_⟩)⟩
          rw [isi_tuple]
          refine ⟨_, rfl, ?_⟩
          cases g1 with
          | tup ts ta =>
            rename_i a1 us ps
            -- 0 <= x[0] <= MOST
            have bound : ∀ {p : Prop}, ¬ (0 ≤ n ∧ n ≤ 40) → isNetD (.tuple [.int n, .tuple ps]) = false := fun hn => by
              show (decide (0 ≤ n ∧ n ≤ 40) && okFrom n (-1, -1) ps) = false
              rw [decide_eq_false hn]
              rfl
            refine ⟨_, rfl, .inr (.inl ⟨_, _, _, _, rfl, rfl, hs, hx0, _, _, rfl, rfl, _, rfl, ifD (fun c3 => ?_) (fun c3 => ?_)⟩)⟩
            · refine ⟨_, _, rfl, rfl, _, rfl, ifN (fun c4 => ?_) (fun c4 => ?_)⟩
              · exact no (bound (p := True) fun e => by simp at c4; omega)
              · have hn0 : 0 ≤ n ∧ n ≤ 40 := ⟨c3, by simpa using c4⟩
                have en : isNetD (.tuple [.int n, .tuple ps]) = okFrom n (-1, -1) ps := by
                  show (decide (0 ≤ n ∧ n ≤ 40) && okFrom n (-1, -1) ps) = okFrom n (-1, -1) ps
                  rw [decide_eq_true hn0]
                  rfl
                rw [en] at q
                -- before = (-1, -1)
                refine ⟨_, rfl, _, rfl, by show 2 ≤ sizeLine; decide, fun t0 ht0 => ?_⟩
                have s1 := same_laid (o := .tup [.int (-1), .int (-1)]) ht0
                refine ⟨_, rfl, .inr (.inl ⟨_, _, _, _, rfl, rfl, sqT_same s1 hs, hx1, a1, rfl, ⟨_, sqT_same s1 ts⟩, ?_⟩)⟩
                have lu := DpAll.len ta
                refine for_tup (K := K) (a := a1) (xs := us) (fun i σ H1 => H1 = upd H t0 (.tup [.int (-1), .int (-1)]) ∧ ∃ (bt : Addr) (bx bz : Int) (v2 : Option V), σ = [some (.ref a), some (.ref bt), v2] ∧ SqT K H1 bt ([bx, bz].map V.int) ∧ okFrom n (-1, -1) ps = okFrom n (bx, bz) (ps.drop i))
                  ⟨rfl, t0, -1, -1, none, rfl, SqT.of upd_same, rfl⟩ (fun i σ H1 _ ⟨e, _⟩ => by rw [e]; exact sqT_same s1 ts) ?_ ?_
                · rintro i y σ H1 hy ⟨rfl, bt, bx, bz, v2, rfl, hb, eo⟩
                  obtain ⟨dy, hdy, gy⟩ := dpAt ta hy
                  have gy1 := Dp.same s1 _ _ gy
                  have hdrop : ps.drop i = dy :: ps.drop (i + 1) := by
                    rw [List.drop_eq_getElem_cons (List.getElem?_eq_some_iff.mp hdy).1, (List.getElem?_eq_some_iff.mp hdy).2]
                  rw [hdrop] at eo
                  have stop : okFrom n (bx, bz) (dy :: ps.drop (i + 1)) = false → Q (.bl false) (upd H t0 (.tup [.int (-1), .int (-1)])) := fun e => by
                    have := q _ s1
                    rw [eo, e] at this
                    exact this
                  refine ⟨_, rfl, y, dy, rfl, gy1, _, rfl, ifN (fun c5 => ?_) (fun c5 => ?_)⟩
                  · exact stop (okFrom_cons c5)
                  · obtain ⟨x, z, rfl⟩ : ∃ x z, dy = .tuple [.int x, .int z] := by
                      unfold isPairD at c5
                      split at c5
                      · exact ⟨_, _, rfl⟩
                      · cases c5
                    cases gy1 with
                    | tup ys ya =>
                      rename_i ya1 yv
                      obtain ⟨w0, k0, j0⟩ := dpAt2 (i := 0) ya rfl
                      obtain ⟨w1, k1, j1⟩ := dpAt2 (i := 1) ya rfl
                      cases j0
                      cases j1
                      have lyv := DpAll.len ya
                      have eyv : yv = [x, z].map V.int := by
                        match yv, lyv, k0, k1 with
                        | [y0, y1], _, k0, k1 =>
                          have e0 := Option.some.inj k0
                          have e1 := Option.some.inj k1
                          rw [e0, e1]
                          rfl
                      subst eyv
                      have eok : okFrom n (bx, bz) (.tuple [.int x, .int z] :: ps.drop (i + 1)) = ((decide (0 ≤ x ∧ x < z ∧ z < n) && HT.lexLt [bx, bz] [x, z]) && okFrom n (x, z) (ps.drop (i + 1))) := rfl
                      rw [eok] at stop eo
                      have bad : ¬ (0 ≤ x ∧ x < z ∧ z < n) → Q (.bl false) (upd H t0 (.tup [.int (-1), .int (-1)])) := fun e => stop (by rw [decide_eq_false e]; rfl)
                      refine ⟨_, rfl, _, _, _, _, rfl, rfl, ys, rfl, _, _, rfl, rfl, _, rfl, ifD (fun c6 => ?_) (fun c6 => ?_)⟩
                      · refine ⟨_, rfl, _, _, _, _, rfl, rfl, ys, rfl, _, _, rfl, rfl, _, rfl, ifD (fun c7 => ?_) (fun c7 => ?_)⟩
                        · refine ⟨_, rfl, .inr (.inl ⟨_, _, _, _, rfl, rfl, sqT_same s1 hs, hx0, _, _, rfl, rfl, _, rfl, ifN (fun c8 => ?_) (fun c8 => ?_)⟩)⟩
                          · exact bad fun e => by simp at c8; omega
                          · have c8 : z < n := by simpa using c8
                            have good : decide (0 ≤ x ∧ x < z ∧ z < n) = true := decide_eq_true ⟨c6, c7, c8⟩
                            refine ⟨_, rfl, _, rfl, bt, ya1, [bx, bz], [x, z], rfl, rfl, hb, ys, _, rfl, ifN (fun c9 => ?_) (fun c9 => ?_)⟩
                            · exact stop (by rw [good, c9]; rfl)
                            · refine ⟨_, rfl, rfl, ya1, x, z, _, rfl, ys, ?_⟩
                              rw [eo, good, c9]
                              rfl
                        · refine ⟨_, rfl, ?_⟩
                          exact bad fun e => c7 e.2.1
                      · refine ⟨_, rfl, ?_⟩
                        exact bad fun e => c6 e.1
                · rintro σ H1 ⟨rfl, bt, bx, bz, v2, rfl, hb, eo⟩
                  have := q _ s1
                  rw [eo, lu, List.drop_length] at this
                  exact this
            · refine ⟨_, rfl, ?_⟩
              exact no (bound (p := True) fun e => c3 e.1)
          | _ => exact no (by simp [isNetD])
        | _ => exact no (by simp [isNetD])
    | _ => exact no rfl
/-! ### check_net -/
def sp_check_net (K : PySem.W.Frag) (CB : Addr) : Sp := fun vs H Q E => ∃ (v : V) (d : PyData), vs = [v] ∧ Dp K H v d ∧ (isNetD d = true → ∀ H', Same H H' → Q .non H') ∧ (isNetD d = false → ∀ H', Same H H' → E (.ref CB) none H')
theorem cal_check_net {CB : Addr} (A : At K mg "check_net" s_check_net) (x_BadNet : ExcC K mg "BadNet" CB) (c_is_net : Cal P w K mg base 3 "is_net" (sp_is_net K)) : Cal P w K mg base 4 "check_net" (sp_check_net K CB) := by
  have nd := sc_check_net.nd
  refine A.cal sc_check_net (fun _ _ _ _ _ _ us hl => match us, hl with | [_], _ => rfl) ?_ fun f cdv A' outer s H vs Q E hr h => ⟨_, (pss_one (ps_if (pt_not (pt_val (pe_cal c_is_net hr (by decide) (by rfl) passE (pa_cons (pv 0) pa_nil)))) (pss_one (ps_raise rfl (takes_of rfl rfl rfl rfl) (pmk_own0 PySem.F.excBase_ValueError x_BadNet.ex x_BadNet.g x_BadNet.kp (raises_own x_BadNet.sub x_BadNet.ty) (by rfl)))) pss_nil)), ?_⟩
  · rintro vs H Q E ⟨v, d, rfl, _⟩
    rfl
  · obtain ⟨v, d, rfl, hd, q1, q2⟩ := h
    refine ⟨_, rfl, v, d, rfl, hd, fun H' sm => ⟨_, rfl, ifN (fun c => ?_) (fun c => ?_)⟩⟩
    · exact q2 c H' sm
    · exact q1 c H' sm
end
end Ns

/-! Own layer T: nets as texts, in plain Lean. -/
namespace Ns
open PySem PySem.Spec PyProof.Rows L2 TL
def strI (k : Nat) : Str := Str.ofString (toString (k : Int))
theorem strI_facts : ∀ k, k < 41 → (strI k).length ≤ 2 ∧ 32 ∉ tl (strI k) ∧ 45 ∉ tl (strI k) ∧ 58 ∉ tl (strI k) := by decide +kernel
/-- the number that figures tell -/
def numS (t : Str) : Option Nat := (List.range 41).find? fun k => decide (t = strI k)
theorem numS_strI : ∀ k, k < 41 → numS (strI k) = some k := by decide +kernel
theorem numS_some {t : Str} {k : Nat} (h : numS t = some k) : k < 41 ∧ t = strI k := by
  unfold numS at h
  have h1 := List.mem_of_find?_eq_some h
  have h2 := List.find?_some h
  exact ⟨List.mem_range.mp h1, of_decide_eq_true h2⟩
def blank : Str := Str.ofString " "
def minus : Str := Str.ofString "-"
def colon : Str := Str.ofString ":"
def wordOf (p : Nat × Nat) : Str := strI p.1 ++ minus ++ strI p.2
/-- the text of a net, as the program glues it -/
def textOf (n : Nat) (ties : List (Nat × Nat)) : Str := strI n ++ colon ++ Txt.join (Str.ofString "") (ties.map fun p => blank ++ strI p.1 ++ minus ++ strI p.2)
def wordM (w : Str) : Option (Nat × Nat) := match Txt.split w minus with
  | [a, b] => (match numS a, numS b with
    | some x, some y => some (x, y)
    | _, _ => none)
  | _ => none
def pairsM : List Str → Option (List (Nat × Nat))
  | [] => some []
  | w :: ws => (match wordM w, pairsM ws with
    | some p, some ps => some (p :: ps)
    | _, _ => none)
def pairD (p : Nat × Nat) : PyData := .tuple [.int p.1, .int p.2]
def netD (n : Nat) (ties : List (Nat × Nat)) : PyData := .tuple [.int n, .tuple (ties.map pairD)]
/-- the program's reading -/
def readM (t : Str) : Option (Nat × List (Nat × Nat)) :=
  if 58 ∈ tl t then
    match Txt.split t blank with
    | [] => none
    | w :: ws => if Txt.endswith w colon = true then
        (match pairsM ws, numS (cutS w none (some (-1))) with
        | some ps, some n => if isNetD (netD n ps) = true then some (n, ps) else none
        | _, _ => none)
      else none
  else none
/-- the law's own reading -/
def ownM (t : Str) : Option (Nat × List (Nat × Nat)) :=
  match Txt.split t blank with
  | [] => none
  | w :: ws => if cutS w (some (-1)) none = colon then
      (match numS (cutS w none (some (-1))) with
      | none => none
      | some n => (match pairsM ws with
        | none => none
        | some ps => if (ps.filter fun p => decide (p.1 < p.2 ∧ p.2 < n)) = ps ∧ ((List.range (ps.length - 1)).filter fun k => !HT.lexLt [(((ps.getD k (0, 0)).1 : Nat) : Int), ((ps.getD k (0, 0)).2 : Nat)] [(((ps.getD (k + 1) (0, 0)).1 : Nat) : Int), ((ps.getD (k + 1) (0, 0)).2 : Nat)]) = [] then some (n, ps) else none))
    else none
theorem lexLt2 (a b c d : Int) : HT.lexLt [a, b] [c, d] = decide (a < c ∨ a = c ∧ b < d) := by
  rw [HT.lexLt_cons, HT.lexLt_cons, HT.lexLt_nil_nil]
  by_cases h1 : a = c
  · rw [if_pos h1]
    by_cases h2 : b = d
    · rw [if_pos h2]
      exact (decide_eq_false (by omega)).symm
    · rw [if_neg h2]
      exact decide_eq_decide.mpr ⟨fun h => .inr ⟨h1, h⟩, fun h => by omega⟩
  · rw [if_neg h1]
    exact decide_eq_decide.mpr ⟨fun h => .inl h, fun h => by omega⟩
theorem okFrom_pairs (n : Nat) : ∀ (ps : List (Nat × Nat)) (b : Int × Int), okFrom n b (ps.map pairD) = true ↔
    (∀ p ∈ ps, p.1 < p.2 ∧ p.2 < n) ∧ (∀ p ∈ ps, b.1 < (p.1 : Int) ∨ b.1 = (p.1 : Int) ∧ b.2 < (p.2 : Int)) ∧ ps.Pairwise ltP
  | [], b => ⟨fun _ => ⟨fun _ h => absurd h List.not_mem_nil, fun _ h => absurd h List.not_mem_nil, List.Pairwise.nil⟩, fun _ => rfl⟩
  | p :: r, b => by
    show ((decide (0 ≤ (p.1 : Int) ∧ (p.1 : Int) < (p.2 : Int) ∧ (p.2 : Int) < n) && HT.lexLt [b.1, b.2] [(p.1 : Int), (p.2 : Int)]) && okFrom n ((p.1 : Int), (p.2 : Int)) (r.map pairD)) = true ↔ _
    rw [lexLt2, Bool.and_eq_true, Bool.and_eq_true, decide_eq_true_eq, decide_eq_true_eq, okFrom_pairs n r, List.pairwise_cons]
    constructor
    · rintro ⟨⟨h1, h2⟩, h3, h4, h5⟩
      refine ⟨fun q hq => ?_, fun q hq => ?_, fun q hq => ?_, h5⟩
      · rcases List.mem_cons.mp hq with rfl | hq
        · omega
        · exact h3 q hq
      · rcases List.mem_cons.mp hq with rfl | hq
        · exact h2
        · have h6 := h4 q hq
          dsimp only at h6
          omega
      · have h6 := h4 q hq
        dsimp only at h6
        show p.1 < q.1 ∨ p.1 = q.1 ∧ p.2 < q.2
        omega
    · rintro ⟨h3, h4, h5, h6⟩
      have h7 := h3 p (List.mem_cons_self ..)
      refine ⟨⟨by omega, h4 p (List.mem_cons_self ..)⟩, fun q hq => h3 q (List.mem_cons_of_mem _ hq), fun q hq => ?_, h6⟩
      have h8 : p.1 < q.1 ∨ p.1 = q.1 ∧ p.2 < q.2 := h5 q hq
      show (p.1 : Int) < q.1 ∨ (p.1 : Int) = q.1 ∧ (p.2 : Int) < q.2
      omega
theorem isNetD_net {n : Nat} {ps : List (Nat × Nat)} : isNetD (netD n ps) = true ↔ n ≤ 40 ∧ Good n ps := by
  show (decide (0 ≤ (n : Int) ∧ (n : Int) ≤ 40) && okFrom n (-1, -1) (ps.map pairD)) = true ↔ _
  rw [Bool.and_eq_true, decide_eq_true_eq, okFrom_pairs]
  constructor
  · rintro ⟨h1, h2, _, h3⟩
    exact ⟨by omega, h2, h3⟩
  · rintro ⟨h1, h2, h3⟩
    refine ⟨by omega, h2, fun p _ => ?_, h3⟩
    show (-1 : Int) < p.1 ∨ _
    omega
theorem ltP_trans {a b c : Nat × Nat} (h1 : ltP a b) (h2 : ltP b c) : ltP a c := by
  unfold ltP at *
  omega
theorem steps_sorted (d : Nat × Nat) : ∀ ps : List (Nat × Nat), (∀ k, k + 1 < ps.length → ltP (ps.getD k d) (ps.getD (k + 1) d)) ↔ ps.Pairwise ltP
  | [] => ⟨fun _ => List.Pairwise.nil, fun _ k h => absurd h (by simp)⟩
  | [a] => ⟨fun _ => List.pairwise_singleton .., fun _ k h => absurd h (by simp)⟩
  | a :: b :: r => by
    have ih := steps_sorted d (b :: r)
    rw [List.pairwise_cons, ← ih]
    constructor
    · intro h
      have h0 : ltP a b := h 0 (by simp)
      have ht : ∀ k, k + 1 < (b :: r).length → ltP ((b :: r).getD k d) ((b :: r).getD (k + 1) d) := fun k hk => h (k + 1) (by rw [List.length_cons]; omega)
      refine ⟨fun q hq => ?_, ht⟩
      have hp := ih.mp ht
      rcases List.mem_cons.mp hq with rfl | hq
      · exact h0
      · exact ltP_trans h0 ((List.pairwise_cons.mp hp).1 q hq)
    · rintro ⟨h1, h2⟩ k hk
      match k with
      | 0 => exact h1 b (List.mem_cons_self ..)
      | k + 1 => exact h2 k (by rw [List.length_cons] at hk; omega)
/-- the law's two tests of the pairs -/
theorem tests_good (n : Nat) (ps : List (Nat × Nat)) : ((ps.filter fun p => decide (p.1 < p.2 ∧ p.2 < n)) = ps ∧ ((List.range (ps.length - 1)).filter fun k => !HT.lexLt [(((ps.getD k (0, 0)).1 : Nat) : Int), ((ps.getD k (0, 0)).2 : Nat)] [(((ps.getD (k + 1) (0, 0)).1 : Nat) : Int), ((ps.getD (k + 1) (0, 0)).2 : Nat)]) = []) ↔ Good n ps := by
  unfold Good
  rw [← steps_sorted (0, 0), List.filter_eq_self, List.filter_eq_nil_iff]
  refine and_congr ⟨fun h p hp => of_decide_eq_true (h p hp), fun h p hp => decide_eq_true (h p hp)⟩ ?_
  constructor
  · intro h k hk
    have h1 := h k (List.mem_range.mpr (by omega))
    rw [lexLt2, Bool.not_eq_true', decide_eq_false_iff_not, Classical.not_not] at h1
    unfold ltP
    omega
  · intro h k hk
    have h1 : (ps.getD k (0, 0)).1 < (ps.getD (k + 1) (0, 0)).1 ∨ (ps.getD k (0, 0)).1 = (ps.getD (k + 1) (0, 0)).1 ∧ (ps.getD k (0, 0)).2 < (ps.getD (k + 1) (0, 0)).2 := h k (by have := List.mem_range.mp hk; omega)
    rw [lexLt2, Bool.not_eq_true', decide_eq_false_iff_not, Classical.not_not]
    omega
theorem pairsM_snoc {p : Nat × Nat} {w : Str} : ∀ {a : List Str} {ps : List (Nat × Nat)}, pairsM a = some ps → wordM w = some p → pairsM (a ++ [w]) = some (ps ++ [p])
  | [], ps, h, hw => by
    cases h
    show (match wordM w, pairsM [] with | some p, some ps => some (p :: ps) | _, _ => none) = _
    rw [hw]
    rfl
  | x :: a, ps, h, hw => by
    unfold pairsM at h
    cases e1 : wordM x with
    | none => rw [e1] at h; cases h
    | some q =>
      cases e2 : pairsM a with
      | none => rw [e1, e2] at h; cases h
      | some qs =>
        rw [e1, e2] at h
        cases h
        show (match wordM x, pairsM (a ++ [w]) with | some p, some ps => some (p :: ps) | _, _ => none) = _
        rw [e1, pairsM_snoc e2 hw]
        rfl
theorem pairsM_none {w : Str} : ∀ {a : List Str}, w ∈ a → wordM w = none → pairsM a = none
  | x :: a, h, hw => by
    unfold pairsM
    rcases List.mem_cons.mp h with rfl | h
    · rw [hw]
    · rw [pairsM_none h hw]
      cases wordM x <;> rfl
theorem wordM_two {w a b : Str} (h : Txt.split w minus = [a, b]) : wordM w = (match numS a, numS b with
    | some x, some y => some (x, y)
    | _, _ => none) := by
  unfold wordM
  rw [h]
theorem wordM_not {w : Str} (h : (Txt.split w minus).length ≠ 2) : wordM w = none := by
  unfold wordM
  split
  · rename_i e
    rw [e] at h
    exact absurd rfl h
  · rfl
theorem two_of {α : Type} {l : List α} (h : l.length = 2) : ∃ a b, l = [a, b] := by
  match l, h with
  | [a, b], _ => exact ⟨a, b, rfl⟩
theorem split_some (t : Str) : ∃ w ws, Txt.split t blank = w :: ws := by
  cases e : Txt.split t blank with
  | nil =>
    exfalso
    have h := PySem.StrLaws.join_split t blank
    rw [e] at h
    have h2 : t = Str.empty := h.symm
    subst h2
    have h3 : Txt.split Str.empty blank = [Str.empty] := by decide +kernel
    rw [h3] at e
    cases e
  | cons w ws => exact ⟨w, ws, rfl⟩
theorem readM_nocolon {t : Str} (h : 58 ∉ tl t) : readM t = none := by
  unfold readM
  rw [if_neg h]
theorem readM_noend {t w : Str} {ws : List Str} (e : Txt.split t blank = w :: ws) (h : Txt.endswith w (Str.ofString ":") = false) : readM t = none := by
  unfold readM
  rw [e]
  dsimp only
  rw [if_neg (show ¬ Txt.endswith w colon = true from fun h2 => by rw [show Txt.endswith w colon = false from h] at h2; cases h2)]
  split <;> rfl
theorem readM_nopairs {t w : Str} {ws : List Str} (e : Txt.split t blank = w :: ws) (h : pairsM ws = none) : readM t = none := by
  unfold readM
  rw [e]
  dsimp only
  rw [h]
  dsimp only
  split
  · split <;> rfl
  · rfl
theorem readM_nohead {t w : Str} {ws : List Str} (e : Txt.split t blank = w :: ws) (h : numS (cutS w none (some (-1))) = none) : readM t = none := by
  unfold readM
  rw [e]
  dsimp only
  rw [h]
  cases pairsM ws <;> (dsimp only; split; split <;> rfl; rfl)
theorem readM_all {t w : Str} {ws : List Str} {ps : List (Nat × Nat)} {n : Nat} (e : Txt.split t blank = w :: ws) (hc : 58 ∈ tl t) (he : Txt.endswith w (Str.ofString ":") = true) (hp : pairsM ws = some ps) (hn : numS (cutS w none (some (-1))) = some n) :
    readM t = if isNetD (netD n ps) = true then some (n, ps) else none := by
  unfold readM
  rw [e, if_pos hc]
  dsimp only
  rw [if_pos (show Txt.endswith w colon = true from he), hp, hn]
theorem tl_colon : tl colon = [58] := rfl
theorem tl_blank : tl blank = [32] := rfl
theorem tl_minus : tl minus = [45] := rfl
theorem ends_colon (w : Str) : Txt.endswith w colon = true ↔ cutS w (some (-1)) none = colon := by
  have e1 : (cutS w (some (-1)) none = colon) ↔ (tl w).drop ((tl w).length - 1) = [58] := by
    constructor
    · intro h
      have h1 : tl (cutS w (some (-1)) none) = [58] := by rw [h]; rfl
      unfold cutS at h1
      rw [tl_mk] at h1
      rw [← h1]
      have e2 : HT.sIx w.length 0 (some (-1)) = (tl w).length - 1 := by
        rw [len_tl]
        unfold HT.sIx
        first | omega | (simp; omega) | (simp; split <;> omega)
      have e3 : HT.sIx w.length w.length none = (tl w).length := by rw [len_tl]; rfl
      rw [e2, e3]
      exact (List.take_of_length_le (by rw [List.length_drop]; exact Nat.le_refl _)).symm
    · intro h
      refine ext_tl ?_
      rw [tl_colon, ← h]
      unfold cutS
      rw [tl_mk]
      have e2 : HT.sIx w.length 0 (some (-1)) = (tl w).length - 1 := by
        rw [len_tl]
        unfold HT.sIx
        first | omega | (simp; omega) | (simp; split <;> omega)
      have e3 : HT.sIx w.length w.length none = (tl w).length := by rw [len_tl]; rfl
      rw [e2, e3]
      exact (List.take_of_length_le (by rw [List.length_drop]; exact Nat.le_refl _))
  rw [e1]
  show (decide (0 + 1 ≤ w.length) && Builtin.Str.subAt w colon (w.length - 1)) = true ↔ _
  rw [PySem.StrLaws.subAt_eq, Bool.and_eq_true, decide_eq_true_eq, beq_iff_eq, len_tl]
  show _ ∧ ((tl w).drop ((tl w).length - 1)).take 1 = [58] ↔ _
  constructor
  · rintro ⟨h1, h2⟩
    rw [← h2]
    exact (List.take_of_length_le (by rw [List.length_drop]; omega)).symm
  · intro h
    have h1 := congrArg List.length h
    rw [List.length_drop] at h1
    have h2 : (tl w).length - ((tl w).length - 1) = 1 := h1
    refine ⟨by omega, ?_⟩
    rw [h]
    rfl
theorem mem_join {c : Nat} {S : List Nat} : ∀ {parts : List (List Nat)} {w : List Nat}, w ∈ parts → c ∈ w → c ∈ joinL S parts
  | [p], w, hw, hc => by
    rw [List.mem_singleton.mp hw] at hc
    exact hc
  | p :: q :: r, w, hw, hc => by
    show c ∈ p ++ (S ++ joinL S (q :: r))
    rcases List.mem_cons.mp hw with rfl | hw
    · exact List.mem_append.mpr (.inl hc)
    · exact List.mem_append.mpr (.inr (List.mem_append.mpr (.inr (mem_join hw hc))))
theorem mem_of_split {c : Nat} {t w : Str} (hw : w ∈ Txt.split t blank) (hc : c ∈ tl w) : c ∈ tl t := by
  have h := PySem.StrLaws.join_split t blank
  rw [← h, tl_join]
  exact mem_join (List.mem_map.mpr ⟨w, hw, rfl⟩) hc
theorem read_own (t : Str) : readM t = ownM t := by
  unfold readM ownM
  rcases e : Txt.split t blank with _ | ⟨w, ws⟩
  · by_cases h : 58 ∈ tl t <;> simp [h]
  · dsimp only
    by_cases he : cutS w (some (-1)) none = colon
    · have he2 := (ends_colon w).mpr he
      have hc : 58 ∈ tl t := by
        refine mem_of_split (w := w) (by rw [e]; exact List.mem_cons_self ..) ?_
        have h1 : tl (cutS w (some (-1)) none) = [58] := by rw [he]; rfl
        unfold cutS at h1
        rw [tl_mk] at h1
        have h2 : 58 ∈ ((w.cps.toList.drop (HT.sIx w.length 0 (some (-1)))).take (HT.sIx w.length w.length none - HT.sIx w.length 0 (some (-1)))) := by rw [h1]; exact List.mem_singleton.mpr rfl
        exact List.mem_of_mem_drop (List.mem_of_mem_take h2)
      rw [if_pos hc, if_pos he, if_pos he2]
      rcases e2 : numS (cutS w none (some (-1))) with _ | n
      · cases pairsM ws <;> rfl
      · rcases e3 : pairsM ws with _ | ps
        · rfl
        · dsimp only
          have hn := (numS_some e2).1
          by_cases hg : Good n ps
          · rw [if_pos (isNetD_net.mpr ⟨by omega, hg⟩), if_pos ((tests_good n ps).mpr hg)]
          · rw [if_neg (fun h => hg (isNetD_net.mp h).2), if_neg (fun h => hg ((tests_good n ps).mp h))]
    · rw [if_neg he, if_neg (fun h => he ((ends_colon w).mp h))]
      by_cases h : 58 ∈ tl t <;> simp [h]
theorem tl_textOf (n : Nat) (ties : List (Nat × Nat)) : tl (textOf n ties) = joinL [32] ((tl (strI n) ++ [58]) :: ties.map fun p => tl (strI p.1) ++ [45] ++ tl (strI p.2)) := by
  unfold textOf
  rw [tl_append, tl_append, join_eq, tl_join, tl_colon]
  have h : ∀ (a : List Nat) (l : List (Nat × Nat)), a ++ joinL (tl (Str.ofString "")) (List.map tl (List.map (fun p => blank ++ strI p.1 ++ minus ++ strI p.2) l)) = joinL [32] (a :: l.map fun p => tl (strI p.1) ++ [45] ++ tl (strI p.2)) := by
    intro a l
    induction l generalizing a with
    | nil => exact List.append_nil a
    | cons p r ih =>
      have e1 : joinL (tl (Str.ofString "")) (List.map tl (List.map (fun p => blank ++ strI p.1 ++ minus ++ strI p.2) (p :: r))) = tl (blank ++ strI p.1 ++ minus ++ strI p.2) ++ joinL (tl (Str.ofString "")) (List.map tl (List.map (fun p => blank ++ strI p.1 ++ minus ++ strI p.2) r)) := by
        cases r with
        | nil => exact (List.append_nil _).symm
        | cons q r => rfl
      rw [e1, tl_append, tl_append, tl_append, tl_blank, tl_minus]
      show _ = a ++ ([32] ++ joinL [32] ((tl (strI p.1) ++ [45] ++ tl (strI p.2)) :: List.map (fun p => tl (strI p.1) ++ [45] ++ tl (strI p.2)) r))
      rw [← ih]
      simp only [List.append_assoc]
  exact h _ _
theorem tl_wordOf (p : Nat × Nat) : tl (wordOf p) = tl (strI p.1) ++ [45] ++ tl (strI p.2) := by
  unfold wordOf
  rw [tl_append, tl_append, tl_minus]
theorem textOf_join (n : Nat) (ties : List (Nat × Nat)) : textOf n ties = Txt.join blank ((strI n ++ colon) :: ties.map wordOf) := by
  refine ext_tl ?_
  rw [tl_textOf, join_eq, tl_join, tl_blank, List.map_cons, tl_append, tl_colon, List.map_map]
  congr 2
  refine List.map_congr_left fun p _ => ?_
  exact (tl_wordOf p).symm
theorem wordM_of {p : Nat × Nat} (h1 : p.1 < 41) (h2 : p.2 < 41) : wordM (wordOf p) = some p := by
  have e : Txt.split (wordOf p) minus = [strI p.1, strI p.2] := by
    have e1 : wordOf p = Txt.join minus [strI p.1, strI p.2] := by
      rw [join_eq]
      rfl
    rw [e1]
    refine split_join (y := minus) (s := 45) (S := []) rfl (by decide +kernel) (by simp) fun q hq => ?_
    rcases List.mem_cons.mp hq with rfl | hq
    · exact (strI_facts p.1 h1).2.2.1
    · rw [List.mem_singleton.mp hq]
      exact (strI_facts p.2 h2).2.2.1
  unfold wordM
  rw [e]
  dsimp only
  rw [numS_strI p.1 h1, numS_strI p.2 h2]
theorem pairsM_of : ∀ {ps : List (Nat × Nat)}, (∀ p ∈ ps, p.1 < 41 ∧ p.2 < 41) → pairsM (ps.map wordOf) = some ps
  | [], _ => rfl
  | p :: r, h => by
    unfold pairsM
    rw [List.map_cons]
    dsimp only
    rw [wordM_of (h p (List.mem_cons_self ..)).1 (h p (List.mem_cons_self ..)).2, pairsM_of fun q hq => h q (List.mem_cons_of_mem _ hq)]
theorem notin_word {p : Nat × Nat} (h1 : p.1 < 41) (h2 : p.2 < 41) : 32 ∉ tl (wordOf p) := by
  rw [tl_wordOf]
  have := (strI_facts p.1 h1).2.1
  have := (strI_facts p.2 h2).2.1
  intro hm
  rcases List.mem_append.mp hm with hm | hm
  · rcases List.mem_append.mp hm with hm | hm
    · exact absurd hm (by assumption)
    · cases List.mem_singleton.mp hm
  · exact absurd hm (by assumption)
theorem cut_all (a : Str) (c : Str) (hc : (tl c).length = 1) : cutS (a ++ c) none (some (-1)) = a ∧ cutS (a ++ c) (some (-1)) none = c := by
  have el : (a ++ c).length = (tl a).length + 1 := by rw [len_tl, tl_append, List.length_append, hc]
  have e2 : HT.sIx ((tl a).length + 1) 0 (some (-1)) = (tl a).length := by
    unfold HT.sIx
    first | omega | (simp; omega) | (simp; split <;> omega)
  have e4 : HT.sIx ((tl a).length + 1) ((tl a).length + 1) (some (-1)) = (tl a).length := by
    unfold HT.sIx
    first | omega | (simp; omega) | (simp; split <;> omega)
  constructor
  · refine ext_tl ?_
    unfold cutS
    rw [tl_mk, el, e4]
    show ((tl (a ++ c)).drop 0).take ((tl a).length - 0) = _
    rw [tl_append, List.drop_zero, Nat.sub_zero, List.take_left']
    rfl
  · refine ext_tl ?_
    unfold cutS
    rw [tl_mk, el, e2]
    show ((tl (a ++ c)).drop (tl a).length).take ((tl a).length + 1 - (tl a).length) = _
    rw [tl_append, List.drop_left', List.take_of_length_le (by omega)]
    rfl
theorem read_text {n : Nat} {ties : List (Nat × Nat)} (hn : n ≤ 40) (hg : Good n ties) : readM (textOf n ties) = some (n, ties) := by
  have hb : ∀ p ∈ ties, p.1 < 41 ∧ p.2 < 41 := fun p hp => by
    have := hg.1 p hp
    omega
  have es : Txt.split (textOf n ties) blank = (strI n ++ colon) :: ties.map wordOf := by
    rw [textOf_join]
    refine split_join (y := blank) (s := 32) (S := []) rfl (by decide +kernel) (by simp) fun q hq => ?_
    rcases List.mem_cons.mp hq with rfl | hq
    · rw [tl_append, tl_colon]
      have := (strI_facts n (by omega)).2.1
      intro hm
      rcases List.mem_append.mp hm with hm | hm
      · exact absurd hm (by assumption)
      · cases List.mem_singleton.mp hm
    · obtain ⟨p, hp, rfl⟩ := List.mem_map.mp hq
      exact notin_word (hb p hp).1 (hb p hp).2
  rw [read_own]
  unfold ownM
  rw [es]
  dsimp only
  obtain ⟨c1, c2⟩ := cut_all (strI n) colon rfl
  rw [if_pos c2, c1, numS_strI n (by omega), pairsM_of hb]
  dsimp only
  rw [if_pos ((tests_good n ties).mpr hg)]
theorem join_le {b : Nat} : ∀ {parts : List (List Nat)}, (∀ p ∈ parts, p.length ≤ b) → (joinL [32] parts).length ≤ parts.length * (b + 1)
  | [], _ => Nat.zero_le _
  | [p], h => by
    have := h p (List.mem_singleton.mpr rfl)
    show p.length ≤ 1 * (b + 1)
    omega
  | p :: q :: r, h => by
    have h1 := h p (List.mem_cons_self ..)
    have h2 := join_le fun z hz => h z (List.mem_cons_of_mem p hz)
    show (p ++ ([32] ++ joinL [32] (q :: r))).length ≤ ((q :: r).length + 1) * (b + 1)
    rw [List.length_append, List.length_append, Nat.succ_mul]
    show p.length + (1 + (joinL [32] (q :: r)).length) ≤ _
    omega
theorem textOf_len {n : Nat} {ties : List (Nat × Nat)} (hn : n ≤ 40) (hg : Good n ties) : (textOf n ties).length ≤ (ties.length + 1) * 6 := by
  rw [len_tl, tl_textOf]
  have h := join_le (b := 5) (parts := (tl (strI n) ++ [58]) :: ties.map fun p => tl (strI p.1) ++ [45] ++ tl (strI p.2)) fun p hp => ?_
  · rw [List.length_cons, List.length_map] at h
    exact h
  · rcases List.mem_cons.mp hp with rfl | hp
    · have := (strI_facts n (by omega)).1
      rw [len_tl] at this
      rw [List.length_append]
      show _ + 1 ≤ 5
      omega
    · obtain ⟨q, hq, rfl⟩ := List.mem_map.mp hp
      have h0 := hg.1 q hq
      have h1 := (strI_facts q.1 (by omega)).1
      have h2 := (strI_facts q.2 (by omega)).1
      rw [len_tl] at h1 h2
      rw [List.length_append, List.length_append]
      show _ + 1 + _ ≤ 5
      omega
/-- each part of a split text is no longer than the text, and there are no more parts than signs and one -/
theorem part_le {S : List Nat} : ∀ {parts : List (List Nat)} {w : List Nat}, w ∈ parts → w.length ≤ (joinL S parts).length
  | [p], w, hw => by
    rw [List.mem_singleton.mp hw]
    exact Nat.le_refl _
  | p :: q :: r, w, hw => by
    show w.length ≤ (p ++ (S ++ joinL S (q :: r))).length
    rw [List.length_append, List.length_append]
    rcases List.mem_cons.mp hw with rfl | hw
    · omega
    · have := part_le (S := S) hw
      omega
theorem parts_le {s : Nat} : ∀ (parts : List (List Nat)), parts.length ≤ (joinL [s] parts).length + 1
  | [] => by simp
  | [p] => by simp
  | p :: q :: r => by
    show (q :: r).length + 1 ≤ (p ++ ([s] ++ joinL [s] (q :: r))).length + 1
    have := parts_le (s := s) (q :: r)
    rw [List.length_append, List.length_append]
    simp at *
    omega
theorem split_part {t w y : Str} (hw : w ∈ Txt.split t y) : w.length ≤ t.length := by
  have h := PySem.StrLaws.join_split t y
  have h2 : (tl t).length = (joinL (tl y) ((Txt.split t y).map tl)).length := by rw [← tl_join, h]
  rw [len_tl, len_tl, h2]
  exact part_le (List.mem_map.mpr ⟨w, hw, rfl⟩)
theorem split_len {t y : Str} {s : Nat} (hy : tl y = [s]) : (Txt.split t y).length ≤ t.length + 1 := by
  have h := PySem.StrLaws.join_split t y
  have h2 : (tl t).length = (joinL (tl y) ((Txt.split t y).map tl)).length := by rw [← tl_join, h]
  rw [len_tl t, h2, hy]
  have := parts_le (s := s) ((Txt.split t y).map tl)
  rw [List.length_map] at this
  exact this
end Ns

/-! Own layer Q: texts of nets, the program. -/
namespace Ns
open PySem PySem.Spec PyProof.Rows L2
local macro_rules | `(tactic| walk_at "look") => `(tactic| first | assumption | exact upd_same | (refine (upd_ne (by first | assumption | exact Ne.symm (by assumption))).trans ?_; walk_at "look"))
local macro_rules | `(tactic| walk_at "cond") => `(tactic| first | assumption | omega | (dsimp only; omega) | exact ⟨by omega, by omega⟩ | decide | exact ⟨by decide, by decide, by decide⟩ | exact .inr ⟨by decide, by decide⟩ | exact .inl ⟨by decide, by decide⟩ | exact .inr ⟨by omega, by omega⟩ | exact .inl ⟨by omega, by omega⟩)
local macro_rules | `(tactic| walk_at "rd1") => `(tactic| first
  | refine ⟨_, rfl, ?_⟩
  | refine ⟨_, _, rfl, rfl, ?_⟩
  | refine ⟨rfl, ?_⟩
  | refine ⟨_, _, rfl, rfl, (by walk_at "cond"), ?_⟩
  | refine ⟨_, _, _, _, rfl, rfl, SqL.of (by walk_at "look"), rfl, ?_⟩
  | refine ⟨_, _, _, _, rfl, rfl, SqT.of (by walk_at "look"), rfl, ?_⟩
  | refine ⟨_, _, _, _, rfl, rfl, (by walk_at "look"), rfl, ?_⟩
  | refine .inl ⟨_, rfl, ?_⟩
  | refine ⟨.inl ⟨rfl, _, SqL.of (by walk_at "look")⟩, ?_⟩
  | refine ⟨_, _, rfl, ⟨by omega, by omega, by omega, by omega⟩, ?_⟩
  | refine ⟨_, rfl, (by omega), (by omega), ?_⟩
  | refine And.intro (by walk_at "cond") ?_)
local macro_rules | `(tactic| walk_at "rd") => `(tactic| repeat (walk_at "rd1"))

abbrev s_written : Stmt := top 10
abbrev N_written : List Str := ["net", "x", "y"]
theorem sc_written : FnScope N_written ["net"] (defScope s_written) := ⟨rfl, rfl, rfl, by decide +kernel, rfl, by decide +kernel, by decide +kernel⟩
abbrev s_number : Stmt := top 11
abbrev N_number : List Str := ["text", "k"]
theorem sc_number : FnScope N_number ["text"] (defScope s_number) := ⟨rfl, rfl, rfl, by decide +kernel, rfl, by decide +kernel, by decide +kernel⟩
abbrev s_read : Stmt := top 12
abbrev N_read : List Str := ["text", "words", "pairs", "word", "ends", "net"]
theorem sc_read : FnScope N_read ["text"] (defScope s_read) := ⟨rfl, rfl, rfl, by decide +kernel, rfl, by decide +kernel, by decide +kernel⟩
abbrev s_law_text : Stmt := top 25
abbrev N_law_text : List Str := ["net", "x", "y"]
theorem sc_law_text : FnScope N_law_text ["net"] (defScope s_law_text) := ⟨rfl, rfl, rfl, by decide +kernel, rfl, by decide +kernel, by decide +kernel⟩
theorem net_of_pairs {K : PySem.W.Frag} {H : Hp} : ∀ {vs : List V} {ps : List (Nat × Nat)}, Paired (Pr H) vs ps → DpAll K H vs (ps.map pairD)
  | _, _, .nil => .nil
  | _, _, .cons ⟨t, e, h⟩ r => by
    subst e
    exact .cons (.tup (SqT.of h) (.cons (.int _) (.cons (.int _) .nil))) (net_of_pairs r)
theorem Net.dp {K : PySem.W.Frag} {H : Hp} {v : V} {n : Nat} {ties : List (Nat × Nat)} (x : Net H v n ties) : Dp K H v (netD n ties) := by
  obtain ⟨t, u, rfl, h, t2, vs, rfl, h2, pr⟩ := x
  exact .tup (SqT.of h) (.cons (.int _) (.cons (.tup (SqT.of h2) (net_of_pairs pr)) .nil))
theorem cutV_tail {x : V} {xs : List V} : cutV (x :: xs) (some 1) none = xs := by
  have e1 : HT.sIx (x :: xs).length 0 (some 1) = 1 := by
    rw [show (some (1 : Int)) = some ((1 : Nat) : Int) from rfl, HT.sIx_nat, List.length_cons]
    omega
  unfold cutV
  rw [e1]
  show xs.take ((x :: xs).length - 1) = xs
  rw [List.length_cons]
  exact List.take_of_length_le (by omega)
/-- a text -/
def Tx (_ : Hp) (v : V) (z : Str) : Prop := v = .str z
theorem persTx : PersT Tx := fun _ _ _ _ _ h => h
theorem pairedTx_eq {H : Hp} : ∀ {vs : List V} {ns : List Str}, Paired (Tx H) vs ns → vs = ns.map V.str
  | _, _, .nil => rfl
  | _, _, .cons h t => by rw [show _ = V.str _ from h, pairedTx_eq t]; rfl
theorem pairedTx (H : Hp) : ∀ ns : List Str, Paired (Tx H) (ns.map V.str) ns
  | [] => .nil
  | _ :: ns => .cons rfl (pairedTx H ns)
theorem log_small {k : Nat} (h : k < 1000000) : (k : Int).natAbs.log2 < 1920 := by
  rw [Int.natAbs_natCast]
  rcases Nat.eq_zero_or_pos k with rfl | hp
  · decide
  · have h1 : k < 2 ^ 1920 := Nat.lt_of_lt_of_le h (by decide)
    exact (Nat.log2_lt (by omega)).mpr h1
theorem strBig {n : Nat} (h : n ≤ 1000000) : n ≤ sizeLine := Nat.le_of_lt (sizeBig (by omega))
theorem filterMap_some {α β : Type} (f : α → β) (l : List α) : l.filterMap (fun x => some (f x)) = l.map f := by
  rw [← List.filterMap_eq_map]
  rfl
theorem len_app (a b : Str) : (a ++ b).length = a.length + b.length := by
  rw [TL.len_tl, TL.len_tl, TL.len_tl, TL.tl_append, List.length_append]
theorem len_blank : blank.length = 1 := rfl
theorem len_minus : minus.length = 1 := rfl
theorem len_colon : colon.length = 1 := rfl
/-- the glue's word -/
def glueW (p : Nat × Nat) : Str := blank ++ strI p.1 ++ minus ++ strI p.2
theorem glue_len {n : Nat} {ties : List (Nat × Nat)} (hn : n ≤ 40) (hg : Good n ties) : ((ties.map glueW).map (·.length)).sum ≤ 6 * ties.length := by
  have h : ∀ p ∈ ties, (glueW p).length ≤ 6 := fun p hp => by
    have h0 := hg.1 p hp
    have h1 := (strI_facts p.1 (by omega)).1
    have h2 := (strI_facts p.2 (by omega)).1
    show (blank ++ strI p.1 ++ minus ++ strI p.2).length ≤ 6
    rw [len_app, len_app, len_app, len_blank, len_minus]
    omega
  clear hg
  induction ties with
  | nil => exact Nat.zero_le _
  | cons p r ih =>
    have h1 := h p (List.mem_cons_self ..)
    have h2 := ih fun q hq => h q (List.mem_cons_of_mem _ hq)
    simp only [List.map_cons, List.sum_cons, List.length_cons]
    omega
section
variable {P : Program} {w : World} {K : PySem.W.Frag} {mg : Str → Option Value} {base : Heap}
def sp_written : Sp := fun vs H Q _ => ∃ (v : V) (n : Nat) (ties : List (Nat × Nat)), vs = [v] ∧ Net H v n ties ∧ n ≤ 40 ∧ Good n ties ∧ ties.length ≤ 2000 ∧ ∀ H', Same H H' → Q (.str (textOf n ties)) H'
theorem cal_written {CB : Addr} (A : At K mg "written" s_written) (B : Bi mg) (c_check_net : Cal P w K mg base 4 "check_net" (sp_check_net K CB)) : Cal P w K mg base 5 "written" sp_written := by
  have nd := sc_written.nd
  refine A.cal sc_written (fun _ _ _ _ _ _ us hl => match us, hl with | [_], _ => rfl) ?_ fun f cdv A' outer s H vs Q E hr h => ⟨_, (pss_cons (ps_expr (pe_cal c_check_net hr (by decide) (by rfl) passE (pa_cons (pv 0) pa_nil)))
  (pss_one (ps_ret (pe_op op_add_str (pe_op op_add_str (pe_callTy call_str_int (by rfl) B.str_ (by decide +kernel) (pa_cons (pe_ix (ix_tupK (K := K) rfl) (pv 0) pe_int (fun _ _ => rfl)) pa_nil)) pe_str) (pe_joinK (K := K) rfl pe_str (pe_lc (own := [("x", 1), ("y", 2)]) rfl nd (pi_tupK (K := K) rfl (pe_ix (ix_tupK (K := K) rfl) (pv 0) pe_int (fun _ _ => rfl))) (blkOk_by (own := [("x", 1), ("y", 2)]) (N := N_written) (sc := defScope s_written) (by decide +kernel)) (fun _ _ _ _ _ => (pg_tupK (K := K) (n := 2) rfl rfl (pgs_cons (pg_name (i := 1) nd rfl (.inl rfl) (.inr rfl)) (pgs_cons (pg_name (i := 2) nd rfl (.inl rfl) (.inr rfl)) pgs_nil)))) (fun _ _ _ _ _ => pts_nil) (fun _ _ _ _ _ => (pe_op op_add_str (pe_op op_add_str (pe_op op_add_str pe_str (pe_callTy call_str_int (by rfl) B.str_ (by decide +kernel) (pa_cons (pv 1) pa_nil))) pe_str) (pe_callTy call_str_int (by rfl) B.str_ (by decide +kernel) (pa_cons (pv 2) pa_nil)))))))))), ?_⟩
  · rintro vs H Q E ⟨v, n, ties, rfl, _⟩
    rfl
  · obtain ⟨v, n, ties, rfl, hN, hn, hg, hl, q⟩ := h
    refine ⟨_, rfl, v, netD n ties, rfl, hN.dp, fun _ H0 s0 => ?_, fun e => ?_⟩
    · obtain ⟨t, u, rfl, h, t2, us, rfl, h2, pr⟩ := hN.keep (sKt s0)
      have ln := (strI_facts n (by omega)).1
      have hus : us.length ≤ 2000 := by
        have := pr.length
        omega
      refine ⟨_, rfl, _, _, _, _, rfl, rfl, SqT.of h, rfl, _, rfl, log_small (by omega), strI n, colon, rfl, rfl, ?_, ?_⟩
      · rw [len_colon]
        exact strBig (by omega)
      refine ⟨⟨_, rfl⟩, _, rfl, _, _, _, _, rfl, rfl, SqT.of h, rfl, t2, rfl, ⟨_, SqT.of h2⟩, fun D hD => ?_⟩
      refine comp_tup (K := K) persPr (fun p => some (glueW p)) persTx hD h2 (sizeBig (by omega)) pr ?_ ?_
      · rintro p v H2 Yes No hp ⟨tp, rfl, ht⟩ sm2 yes no
        have h0 := hg.1 p hp
        have l1 := (strI_facts p.1 (by omega)).1
        have l2 := (strI_facts p.2 (by omega)).1
        refine ⟨tp, _, rfl, SqT.of ht, rfl, _, _, rfl, _, _, rfl, rfl, rfl, ?_⟩
        refine ⟨_, rfl, _, rfl, log_small (by omega), blank, strI p.1, rfl, rfl, ?_, ?_⟩
        · rw [len_blank]
          exact strBig (by omega)
        refine ⟨_, minus, rfl, rfl, ?_, ?_⟩
        · rw [len_app, len_blank, len_minus]
          exact strBig (by omega)
        refine ⟨_, rfl, _, rfl, log_small (by omega), _, strI p.2, rfl, rfl, ?_, ?_⟩
        · rw [len_app, len_app, len_blank, len_minus]
          exact strBig (by omega)
        exact yes _ rfl _ _ (Same.refl _) rfl
      · intro H2 ys sm2 hy pr2
        rw [filterMap_some] at pr2
        have e := pairedTx_eq pr2
        subst e
        have gl := glue_len hn hg
        refine ⟨Str.ofString "", D, ties.map glueW, rfl, rfl, .inl (SqL.of hy), ?_, ?_⟩
        · show _ + _ * 0 ≤ _
          omega
        refine ⟨_, _, rfl, rfl, ?_, ?_⟩
        · have e : (strI n ++ colon).length + (Txt.join (Str.ofString "") (ties.map glueW)).length = (textOf n ties).length := (len_app _ _).symm
          rw [e]
          have := textOf_len hn hg
          exact strBig (by omega)
        exact q _ (s0.trans sm2)
    · rw [isNetD_net.mpr ⟨hn, hg⟩] at e
      cases e
theorem cal_text (A : At K mg "_law_text" s_law_text) (B : Bi mg) : Cal P w K mg base 1 "_law_text" sp_written := by
  have nd := sc_law_text.nd
  refine A.cal sc_law_text (fun _ _ _ _ _ _ us hl => match us, hl with | [_], _ => rfl) ?_ fun f cdv A' outer s H vs Q E hr h => ⟨_, (pss_one (ps_ret (pe_op op_add_str (pe_op op_add_str (pe_callTy call_str_int (by rfl) B.str_ (by decide +kernel) (pa_cons (pe_ix (ix_tupK (K := K) rfl) (pv 0) pe_int (fun _ _ => rfl)) pa_nil)) pe_str) (pe_joinK (K := K) rfl pe_str (pe_lc (own := [("x", 1), ("y", 2)]) rfl nd (pi_tupK (K := K) rfl (pe_ix (ix_tupK (K := K) rfl) (pv 0) pe_int (fun _ _ => rfl))) (blkOk_by (own := [("x", 1), ("y", 2)]) (N := N_law_text) (sc := defScope s_law_text) (by decide +kernel)) (fun _ _ _ _ _ => (pg_tupK (K := K) (n := 2) rfl rfl (pgs_cons (pg_name (i := 1) nd rfl (.inl rfl) (.inr rfl)) (pgs_cons (pg_name (i := 2) nd rfl (.inl rfl) (.inr rfl)) pgs_nil)))) (fun _ _ _ _ _ => pts_nil) (fun _ _ _ _ _ => (pe_op op_add_str (pe_op op_add_str (pe_op op_add_str pe_str (pe_callTy call_str_int (by rfl) B.str_ (by decide +kernel) (pa_cons (pv 1) pa_nil))) pe_str) (pe_callTy call_str_int (by rfl) B.str_ (by decide +kernel) (pa_cons (pv 2) pa_nil))))))))), ?_⟩
  · rintro vs H Q E ⟨v, n, ties, rfl, _⟩
    rfl
  · obtain ⟨v, n, ties, rfl, hN, hn, hg, hl, q⟩ := h
    have s0 := Same.refl H
    obtain ⟨t, u, rfl, h, t2, us, rfl, h2, pr⟩ := hN.keep (sKt s0)
    have ln := (strI_facts n (by omega)).1
    have hus : us.length ≤ 2000 := by
      have := pr.length
      omega
    refine ⟨_, rfl, _, _, _, _, rfl, rfl, SqT.of h, rfl, _, rfl, log_small (by omega), strI n, colon, rfl, rfl, ?_, ?_⟩
    · rw [len_colon]
      exact strBig (by omega)
    refine ⟨⟨_, rfl⟩, _, rfl, _, _, _, _, rfl, rfl, SqT.of h, rfl, t2, rfl, ⟨_, SqT.of h2⟩, fun D hD => ?_⟩
    refine comp_tup (K := K) persPr (fun p => some (glueW p)) persTx hD h2 (sizeBig (by omega)) pr ?_ ?_
    · rintro p v H2 Yes No hp ⟨tp, rfl, ht⟩ sm2 yes no
      have h0 := hg.1 p hp
      have l1 := (strI_facts p.1 (by omega)).1
      have l2 := (strI_facts p.2 (by omega)).1
      refine ⟨tp, _, rfl, SqT.of ht, rfl, _, _, rfl, _, _, rfl, rfl, rfl, ?_⟩
      refine ⟨_, rfl, _, rfl, log_small (by omega), blank, strI p.1, rfl, rfl, ?_, ?_⟩
      · rw [len_blank]
        exact strBig (by omega)
      refine ⟨_, minus, rfl, rfl, ?_, ?_⟩
      · rw [len_app, len_blank, len_minus]
        exact strBig (by omega)
      refine ⟨_, rfl, _, rfl, log_small (by omega), _, strI p.2, rfl, rfl, ?_, ?_⟩
      · rw [len_app, len_app, len_blank, len_minus]
        exact strBig (by omega)
      exact yes _ rfl _ _ (Same.refl _) rfl
    · intro H2 ys sm2 hy pr2
      rw [filterMap_some] at pr2
      have e := pairedTx_eq pr2
      subst e
      have gl := glue_len hn hg
      refine ⟨Str.ofString "", D, ties.map glueW, rfl, rfl, .inl (SqL.of hy), ?_, ?_⟩
      · show _ + _ * 0 ≤ _
        omega
      refine ⟨_, _, rfl, rfl, ?_, ?_⟩
      · have e : (strI n ++ colon).length + (Txt.join (Str.ofString "") (ties.map glueW)).length = (textOf n ties).length := (len_app _ _).symm
        rw [e]
        have := textOf_len hn hg
        exact strBig (by omega)
      exact q _ (s0.trans sm2)
/-! ### numbers of figures -/
def sp_number (CB : Addr) : Sp := fun vs H Q E => ∃ t : Str, vs = [.str t] ∧ (∀ k, numS t = some k → Q (.int k) H) ∧ (numS t = none → E (.ref CB) none H)
theorem cal_number {CB : Addr} (A : At K mg "number" s_number) (B : Bi mg) (x_BadNet : ExcC K mg "BadNet" CB) (hM : ∃ t, mg "MOST" = some (.int 40 t)) : Cal P w K mg base 1 "number" (sp_number CB) := by
  have nd := sc_number.nd
  obtain ⟨tM, c_MOST⟩ := hM
  refine A.cal sc_number (fun _ _ _ _ _ _ us hl => match us, hl with | [_], _ => rfl) ?_ fun f cdv A' outer s H vs Q E hr h => ⟨_, (pss_cons (ps_for passOwn rfl (pi_range1 (by rfl) B.range (pa_cons (pe_op op_add (pe_glob (v := .int 40) rfl c_MOST ⟨_, rfl⟩) pe_int) pa_nil)) (pg_name (i := 1) nd rfl (.inl rfl)) (pss_one (ps_if (pt_cmpR op_eq (pv 0) (pe_callTy call_str_int (by rfl) B.str_ (by decide +kernel) (pa_cons (pv 1) pa_nil)) (nomark _)) (pss_one (ps_ret (pv 1))) pss_nil)))
  (pss_one (ps_raise rfl (takes_of rfl rfl rfl rfl) (pmk_own0 PySem.F.excBase_ValueError x_BadNet.ex x_BadNet.g x_BadNet.kp (raises_own x_BadNet.sub x_BadNet.ty) (by rfl))))), ?_⟩
  · rintro vs H Q E ⟨t, rfl, _⟩
    rfl
  · obtain ⟨t, rfl, q1, q2⟩ := h
    refine ⟨_, _, rfl, rfl, _, rfl, by omega, by omega, ?_⟩
    refine for_range (lo := 0) (n := 41) (fun i σ H1 => H1 = H ∧ ∃ v, σ = [some (.str t), v] ∧ ∀ j, j < i → t ≠ strI j) ⟨rfl, none, rfl, fun j h => absurd h (Nat.not_lt_zero _)⟩ ?_ ?_
    · rintro i σ H1 hi ⟨rfl, v, rfl, no⟩
      rw [Int.zero_add]
      refine ⟨_, rfl, _, rfl, _, rfl, log_small (by omega), rfl, _, rfl, ifD (fun c => ?_) (fun c => ?_)⟩
      · have c2 : t = strI i := V.str.inj c
        refine ⟨_, rfl, q1 i ?_⟩
        rw [c2]
        exact numS_strI i hi
      · refine ⟨rfl, some (pI i), rfl, fun j hj e => ?_⟩
        by_cases h : j = i
        · subst h
          exact c (congrArg V.str e)
        · exact no j (by omega) e
    · rintro σ H1 ⟨rfl, v, rfl, no⟩
      refine q2 ?_
      cases e : numS t with
      | none => rfl
      | some k => exact absurd (numS_some e).2 (no k (numS_some e).1)
/-! ### reading -/
def sp_read (CB : Addr) : Sp := fun vs H Q E => ∃ t : Str, vs = [.str t] ∧ t.length ≤ 100000 ∧ (∀ n ps, readM t = some (n, ps) → ∀ v H', Same H H' → Net H' v n ps → Q v H') ∧ (readM t = none → ∀ H', Same H H' → E (.ref CB) none H')
theorem cal_read {CB : Addr} (A : At K mg "read" s_read) (B : Bi mg) (x_BadNet : ExcC K mg "BadNet" CB) (c_number : Cal P w K mg base 1 "number" (sp_number CB)) (c_is_net : Cal P w K mg base 3 "is_net" (sp_is_net K)) : Cal P w K mg base 4 "read" (sp_read CB) := by
  have nd := sc_read.nd
  refine A.cal sc_read (fun _ _ _ _ _ _ us hl => match us, hl with | [_], _ => rfl) ?_ fun f cdv A' outer s H vs Q E hr h => ⟨_, (pss_cons (ps_if (PW.pt (pw_or (pt_not (pt_val (pe_callB (call_isiK' (K := K) rfl) (by rfl) B.isinstance (by decide +kernel) (pa_cons (pv 0) (pa_cons (pe_bltn (v := .ty "str") (u := .type "str") (by rfl) B.str_ (by decide +kernel) rfl) pa_nil))))) (pw_or1 (pt_cmpR op_notIn_sign pe_str (pv 0) rfl)))) (pss_one (ps_raise rfl (takes_of rfl rfl rfl rfl) (pmk_own0 PySem.F.excBase_ValueError x_BadNet.ex x_BadNet.g x_BadNet.kp (raises_own x_BadNet.sub x_BadNet.ty) (by rfl)))) pss_nil)
  (pss_cons (ps_set (i := 1) nd rfl (.inl rfl) (pe_split (pv 0) pe_str))
  (pss_cons (ps_if (pt_not (pt_val (pe_m1 PySem.F.slot_str_endswith PySem.F.type_str_endswith mt_endswith (pe_ix (ix_listK (K := K) rfl) (pv 1) pe_int (fun _ _ => rfl)) pe_str))) (pss_one (ps_raise rfl (takes_of rfl rfl rfl rfl) (pmk_own0 PySem.F.excBase_ValueError x_BadNet.ex x_BadNet.g x_BadNet.kp (raises_own x_BadNet.sub x_BadNet.ty) (by rfl)))) pss_nil)
  (pss_cons (ps_set (i := 2) nd rfl (.inl rfl) (pe_lst pa_nil))
  (pss_cons (ps_for passOwn rfl (pi_listK (K := K) rfl (pe_slice (sl_listK (K := K) rfl) (pv 1) (po_some pe_int) po_none)) (pg_name (i := 3) nd rfl (.inl rfl)) (pss_cons (ps_set (i := 4) nd rfl (.inl rfl) (pe_split (pv 3) pe_str))
  (pss_cons (ps_if (pt_cmpR op_ne (pe_callB (call_lenK (K := K) rfl) (by rfl) B.len (by decide +kernel) (pa_cons (pv 4) pa_nil)) pe_int (nomark _)) (pss_one (ps_raise rfl (takes_of rfl rfl rfl rfl) (pmk_own0 PySem.F.excBase_ValueError x_BadNet.ex x_BadNet.g x_BadNet.kp (raises_own x_BadNet.sub x_BadNet.ty) (by rfl)))) pss_nil)
  (pss_one (ps_expr (pe_bm PySem.F.plainAttrs_list PySem.F.slot_list_append PySem.F.type_list_append mt_append (pv 2) (pa_cons (pe_tup (pa_cons (pe_cal c_number hr (by decide) (by rfl) passE (pa_cons (pe_ix (ix_listK (K := K) rfl) (pv 4) pe_int (fun _ _ => rfl)) pa_nil)) (pa_cons (pe_cal c_number hr (by decide) (by rfl) passE (pa_cons (pe_ix (ix_listK (K := K) rfl) (pv 4) pe_int (fun _ _ => rfl)) pa_nil)) pa_nil))) pa_nil)))))))
  (pss_cons (ps_set (i := 5) nd rfl (.inl rfl) (pe_tup (pa_cons (pe_cal c_number hr (by decide) (by rfl) passE (pa_cons (pe_slice sl_str (pe_ix (ix_listK (K := K) rfl) (pv 1) pe_int (fun _ _ => rfl)) po_none (po_some (pe_un un_neg pe_int))) pa_nil)) (pa_cons (pe_callTy (call_tuple_ofK (K := K) rfl) (by rfl) B.tuple (by decide +kernel) (pa_cons (pv 2) pa_nil)) pa_nil))))
  (pss_cons (ps_if (pt_not (pt_val (pe_cal c_is_net hr (by decide) (by rfl) passE (pa_cons (pv 5) pa_nil)))) (pss_one (ps_raise rfl (takes_of rfl rfl rfl rfl) (pmk_own0 PySem.F.excBase_ValueError x_BadNet.ex x_BadNet.g x_BadNet.kp (raises_own x_BadNet.sub x_BadNet.ty) (by rfl)))) pss_nil)
  (pss_one (ps_ret (pv 5)))))))))), ?_⟩
  · rintro vs H Q E ⟨t, rfl, _⟩
    rfl
  · obtain ⟨t, rfl, hl, q1, q2⟩ := h
    have hd : Dp K H (.str t) (.str t) := .str t
    refine ⟨_, rfl, _, .ty "str", .type (tyName _), .type "str", _, rfl, .ty _, tyX_of hd, kit_ty (kit_isi _ "str" (by simp)), ?_⟩
    rw [isi_str]
    refine ⟨_, rfl, ?_⟩
    refine ifB (fun c0 => by cases c0) (fun _ => ?_)
    refine ⟨_, rfl, 58, t, rfl, rfl, _, rfl, ifN (fun c1 => ?_) (fun c1 => ?_)⟩
    · exact q2 (readM_nocolon (of_decide_eq_false c1)) H (Same.refl H)
    have hc : 58 ∈ TL.tl t := of_decide_eq_true c1
    -- words = text.split(' ')
    obtain ⟨w0, ws, ew⟩ := split_some t
    have hlen : (w0 :: ws).length ≤ 100001 := by
      rw [← ew]
      have := split_len (t := t) tl_blank
      omega
    have hpart : ∀ x ∈ w0 :: ws, x.length ≤ 100000 := fun x hx => by
      rw [← ew] at hx
      exact Nat.le_trans (split_part hx) hl
    refine ⟨_, rfl, ⟨_, rfl⟩, _, _, rfl, rfl, rfl, strBig (by omega), fun pw hpw => ?_⟩
    rw [show Txt.split t (Str.ofString " ") = w0 :: ws from ew]
    have sw := same_laid (o := .lst ((w0 :: ws).map V.str)) hpw
    have hw : (upd H pw (.lst ((w0 :: ws).map V.str))) pw = some (.lst ((w0 :: ws).map V.str)) := upd_same
    -- words[0].endswith(':')
    refine ⟨_, rfl, _, _, _, _, rfl, rfl, SqL.of hw, atI_nat (j := 0) (v := .str w0) rfl, ⟨_, rfl⟩, _, _, rfl, rfl, _, rfl, ifN (fun c2 => ?_) (fun c2 => ?_)⟩
    · exact q2 (readM_noend ew c2) _ sw
    refine ⟨Nat.zero_le _, fun pp hpp => ?_⟩
    have spp := sNew sw (o := .lst []) hpp
    have hw2 : (upd (upd H pw (.lst ((w0 :: ws).map V.str))) pp (.lst [])) pw = some (.lst ((w0 :: ws).map V.str)) := by
      rw [upd_ne (ne_of_none hw hpp)]
      exact hw
    -- for word in words[1:]
    refine ⟨_, rfl, _, rfl, _, _, rfl, SqL.of hw2, fun ps hps => ?_⟩
    rw [show cutV ((w0 :: ws).map V.str) (some 1) none = ws.map V.str from cutV_tail]
    have hH2 : ∀ a o, H a = some o → (upd (upd H pw (.lst ((w0 :: ws).map V.str))) pp (.lst [])) a = some o := spp
    have npp : ps ≠ pp := fun e => by rw [e, upd_same] at hps; cases hps
    have npw : pw ≠ pp := fun e => by rw [← e, upd_same] at hpp; cases hpp
    have hHpp : H pp = none := by
      rw [upd_ne (fun e => npw e.symm)] at hpp
      exact hpp
    have lws : ws.length ≤ 100000 := by
      rw [List.length_cons] at hlen
      omega
    refine ⟨ps, rfl, ⟨_, SqL.of upd_same⟩, for_list (K := K) (a := ps) (xs := ws.map V.str) (fun i σ H1 => ∃ v3 v4, σ = [some (.str t), some (.ref pw), some (.ref pp), v3, v4, none] ∧ Same H H1 ∧ H1 pw = some (.lst ((w0 :: ws).map V.str)) ∧ H1 ps = some (.lst (ws.map V.str)) ∧
      ∃ us qs, H1 pp = some (.lst us) ∧ pairsM (ws.take i) = some qs ∧ Paired (Pr H1) us qs ∧ us.length = i) ⟨none, none, rfl, sNew spp hps, ?_, upd_same, [], [], ?_, rfl, .nil, rfl⟩ (fun i σ H1 _ ⟨_, _, _, _, _, h, _⟩ => SqL.of h) ?_ ?_⟩
    · rw [upd_ne (ne_of_none hw2 hps)]
      exact hw2
    · rw [upd_ne (fun e => npp e.symm)]
      exact upd_same
    · rintro i x σ H1 hx ⟨v3, v4, rfl, sm, hw3, hs3, us, qs, hu, hq, pr, hlu⟩
      have hi : i < ws.length := by
        have h := (List.getElem?_eq_some_iff.mp hx).1
        rw [List.length_map] at h
        exact h
      rw [List.getElem?_map, List.getElem?_eq_getElem hi] at hx
      have hx2 : V.str ws[i] = x := Option.some.inj hx
      subst hx2
      have hmem : ws[i] ∈ ws := List.getElem_mem hi
      have hwl := hpart _ (List.mem_cons_of_mem w0 hmem)
      -- ends = word.split('-')
      refine ⟨_, rfl, ⟨_, rfl⟩, _, _, rfl, rfl, rfl, strBig (by omega), fun pe hpe => ?_⟩
      have spe := sNew sm (o := .lst ((Txt.split ws[i] (Str.ofString "-")).map V.str)) hpe
      have hpw4 := ne_of_none hw3 hpe
      refine ⟨_, rfl, _, _, rfl, .inl ⟨_, SqL.of upd_same, rfl⟩, rfl, _, rfl, ifNI (fun c3 => ?_) (fun c3 => ?_)⟩
      · refine q2 (readM_nopairs ew (pairsM_none hmem (wordM_not fun e => c3 ?_))) _ spe
        rw [List.length_map]
        exact congrArg Nat.cast e
      · obtain ⟨a0, a1, ea⟩ : ∃ a b, Txt.split ws[i] (Str.ofString "-") = [a, b] := two_of (l := Txt.split ws[i] (Str.ofString "-")) (by
          have h := c3
          rw [List.length_map] at h
          omega)
        rw [ea] at spe ⊢
        have hpe2 : ∀ o, (upd H1 pe o) pe = some o := fun o => upd_same
        have hw2 := wordM_two ea
        refine ⟨_, rfl, .inl ⟨rfl, _, SqL.of (xs := us) ?_⟩, _, rfl, _, _, _, _, rfl, rfl, SqL.of (hpe2 _), atI_nat (j := 0) (v := .str a0) rfl, a0, rfl, fun x0 e0 => ?_, fun e0 => ?_⟩
        · rw [upd_ne (ne_of_none hu hpe)]
          exact hu
        · refine ⟨_, rfl, _, _, _, _, rfl, rfl, SqL.of (hpe2 _), atI_nat (j := 1) (v := .str a1) rfl, a1, rfl, fun x1 e1 => ?_, fun e1 => ?_⟩
          · refine ⟨by show 2 ≤ sizeLine; decide, fun pt hpt => ?_⟩
            have hu5 : (upd (upd H1 pe (.lst ([a0, a1].map V.str))) pt (.tup [.int x0, .int x1])) pp = some (.lst us) := sNew (same_laid hpe) hpt _ _ hu
            refine ⟨pp, us, _, rfl, rfl, hu5, sizeBig (by omega), ?_⟩
            have k5 : KeepT H1 (upd (upd (upd H1 pe (.lst ([a0, a1].map V.str))) pt (.tup [.int x0, .int x1])) pp (.lst (us ++ [.ref pt]))) := KeepT.trans (sKt (sNew (same_laid hpe) hpt)) (KeepT.lst hu5)
            refine ⟨_, _, rfl, sPut (sNew spe hpt) hHpp, ?_, ?_, us ++ [.ref pt], qs ++ [(x0, x1)], upd_same, ?_, ?_, by rw [List.length_append, hlu]; rfl⟩
            · rw [upd_ne npw]
              exact sNew (same_laid hpe) hpt _ _ hw3
            · rw [upd_ne npp]
              exact sNew (same_laid hpe) hpt _ _ hs3
            · rw [List.take_add_one, List.getElem?_eq_getElem hi]
              refine pairsM_snoc hq ?_
              rw [hw2, e0, e1]
            · refine pApp (pMono persPr k5 pr) (.cons ⟨pt, rfl, ?_⟩ .nil)
              rw [upd_ne (Ne.symm (ne_of_none (same_laid hpe _ _ hu) hpt))]
              exact upd_same
          · refine q2 (readM_nopairs ew (pairsM_none hmem ?_)) _ spe
            rw [hw2, e1]
            cases numS a0 <;> rfl
        · refine q2 (readM_nopairs ew (pairsM_none hmem ?_)) _ spe
          rw [hw2, e0]
    · rintro σ H1 ⟨v3, v4, rfl, sm, hw3, hs3, us, qs, hu, hq, pr, hlu⟩
      rw [List.length_map, List.take_length] at hq
      have hw0 := hpart w0 (List.mem_cons_self ..)
      refine ⟨_, rfl, _, _, _, _, rfl, rfl, SqL.of hw3, atI_nat (j := 0) (v := .str w0) rfl, _, rfl, _, rfl, w0, rfl, strBig (by omega), cutS w0 none (some (-1)), rfl, fun n en => ?_, fun en => q2 (readM_nohead ew en) _ sm⟩
      have ra := readM_all ew hc c2 hq en
      refine ⟨_, rfl, pp, us, rfl, .inl ⟨SqL.of hu, fun l5 hl5 => ?_⟩⟩
      refine ⟨by show 2 ≤ sizeLine; decide, fun t6 ht6 => ?_⟩
      have s5 : Same H1 (upd H1 l5 (.tup us)) := same_laid hl5
      have s6 := sNew s5 (o := .tup [.int n, .ref l5]) ht6
      have pr6 : Paired (Pr (upd (upd H1 l5 (.tup us)) t6 (.tup [.int n, .ref l5]))) us qs := pMono persPr (sKt s6) pr
      have hN : Net (upd (upd H1 l5 (.tup us)) t6 (.tup [.int n, .ref l5])) (.ref t6) n qs := ⟨t6, .ref l5, rfl, upd_same, l5, us, rfl, same_laid ht6 _ _ upd_same, pr6⟩
      refine ⟨_, rfl, _, netD n qs, rfl, hN.dp, fun H7 s7 => ⟨_, rfl, ifN (fun c4 => ?_) (fun c4 => ?_)⟩⟩
      · refine q2 ?_ _ ((sm.trans s6).trans s7)
        rw [ra, if_neg (by rw [c4]; exact Bool.false_ne_true)]
      · refine ⟨_, rfl, q1 n qs ?_ _ _ ((sm.trans s6).trans s7) (hN.keep (sKt s7))⟩
        rw [ra, if_pos c4]
end
end Ns

/-! Own layer R: texts of nets, the law. -/
namespace Ns
open PySem PySem.Spec PyProof.Rows L2
local macro_rules | `(tactic| walk_at "look") => `(tactic| first | assumption | exact upd_same | (refine (upd_ne (by first | assumption | exact Ne.symm (by assumption))).trans ?_; walk_at "look"))
local macro_rules | `(tactic| walk_at "cond") => `(tactic| first | assumption | omega | (dsimp only; omega) | exact ⟨by omega, by omega⟩ | decide | exact ⟨by decide, by decide, by decide⟩ | exact .inr ⟨by decide, by decide⟩ | exact .inl ⟨by decide, by decide⟩ | exact .inr ⟨by omega, by omega⟩ | exact .inl ⟨by omega, by omega⟩)
local macro_rules | `(tactic| walk_at "rd1") => `(tactic| first
  | refine ⟨_, rfl, ?_⟩
  | refine ⟨_, _, rfl, rfl, ?_⟩
  | refine ⟨rfl, ?_⟩
  | refine ⟨_, _, rfl, rfl, (by walk_at "cond"), ?_⟩
  | refine ⟨_, _, _, _, rfl, rfl, SqL.of (by walk_at "look"), rfl, ?_⟩
  | refine ⟨_, _, _, _, rfl, rfl, SqT.of (by walk_at "look"), rfl, ?_⟩
  | refine ⟨_, _, _, _, rfl, rfl, (by walk_at "look"), rfl, ?_⟩
  | refine .inl ⟨_, rfl, ?_⟩
  | refine ⟨.inl ⟨rfl, _, SqL.of (by walk_at "look")⟩, ?_⟩
  | refine ⟨_, _, rfl, ⟨by omega, by omega, by omega, by omega⟩, ?_⟩
  | refine ⟨_, rfl, (by omega), (by omega), ?_⟩
  | refine And.intro (by walk_at "cond") ?_)
local macro_rules | `(tactic| walk_at "rd") => `(tactic| repeat (walk_at "rd1"))

abbrev s_law_read : Stmt := top 26
abbrev N_law_read : List Str := ["text"]
theorem sc_law_read : FnScope N_law_read ["text"] (defScope s_law_read) := ⟨rfl, rfl, rfl, by decide +kernel, rfl, by decide +kernel, by decide +kernel⟩
abbrev s_law_figures : Stmt := top 27
abbrev N_law_figures : List Str := ["text", "found", "k"]
theorem sc_law_figures : FnScope N_law_figures ["text"] (defScope s_law_figures) := ⟨rfl, rfl, rfl, by decide +kernel, rfl, by decide +kernel, by decide +kernel⟩
abbrev s_law_own : Stmt := top 28
abbrev N_law_own : List Str := ["text", "words", "pairs", "word", "ends", "n", "good", "one", "pair", "k"]
theorem sc_law_own : FnScope N_law_own ["text"] (defScope s_law_own) := ⟨rfl, rfl, rfl, by decide +kernel, rfl, by decide +kernel, by decide +kernel⟩
abbrev s_law_turned : Stmt := top 29
abbrev N_law_turned : List Str := ["box", "text", "at", "way", "new"]
theorem sc_law_turned : FnScope N_law_turned ["box", "text"] (defScope s_law_turned) := ⟨rfl, rfl, rfl, by decide +kernel, rfl, by decide +kernel, by decide +kernel⟩
section
variable {X : Cx} {K : PySem.W.Frag} {k j : Nat} {x : Str} {sp : Sp} {E : L2.St → XK} {p pos : Pos} {e : Expr} {es : List Expr} {t : TA}
theorem pe_calS (F : Cal X.prog X.w X.K X.mg X.base k x sp) (hr : Room j X.A) (hk : k ≤ j) (hg : Gl X x) (hx : ∀ σ, PassesAt (L2.CX X.prog X.w) X σ (E σ)) (ha : PA X (e :: es) t) (hdb : (x == ("__debug__" : Str)) = false := by decide)
    (he : starEach (e :: es) X.env = (false, eval e X.env) :: starEach es X.env := by rfl) (hpl : (backTo pos (starEach es X.env)).any (·.1) = false := by rfl) :
    PE X (.Call (.Name x p) (e :: es) [] pos) (tCallS sp E t) := by
  obtain ⟨f, fd, ps, G, hm, kp, b⟩ := F.ex
  exact pe_callS G (hr.mono hk) hg hm kp b hx ha hdb he hpl
/-- t >= u -/
def rGeT (K : PySem.W.Frag) : R2 := fun x y H Q => ∃ (a b : Addr) (a0 a1 b0 b1 : Int), x = .ref a ∧ y = .ref b ∧ SqT K H a [.int a0, .int a1] ∧ SqT K H b [.int b0, .int b1] ∧ Q (.bl (!HT.lexLt [a0, a1] [b0, b1])) H
theorem op_geTK (hK : X.K = K) (hu : X.A.units < cLine) : OpR X (compareOp .GtE) (rGeT K) := by
  subst hK
  intro pins s σ H x y v u Q I rx ry h
  obtain ⟨a, b, a0, a1, b0, b1, rfl, rfl, ha, hb, q⟩ := h
  cases rx
  cases ry
  obtain ⟨i1, r1, p1, _⟩ := I.tuple ha
  obtain ⟨i2, r2, p2, _⟩ := I.tuple hb
  obtain ⟨u0, u1, rfl, ⟨t0, rfl⟩, ⟨t1, rfl⟩⟩ := vals2 r1
  obtain ⟨w0, w1, rfl, ⟨y0, rfl⟩, ⟨y1, rfl⟩⟩ := vals2 r2
  have R := Ob.RcOp.tuples_ge (A := X.A) (s := s) (e := fun j => if j = 0 then a0 == b0 else a1 == b1) (r := fun j => if j = 0 then decide (b0 ≤ a0) else decide (b1 ≤ a1)) p1 p2 hu
    (fun j h1 h2 => match j, h1, h2 with
      | 0, _, _ => SeqAt.EqAt.int_int _ _ _ _
      | 1, _, _ => SeqAt.EqAt.int_int _ _ _ _)
    (fun j h1 h2 _ => match j, h1, h2 with
      | 0, _, _ => Ob.RcOp.ge_int _ _ _ _
      | 1, _, _ => Ob.RcOp.ge_int _ _ _ _)
  have e : Ob.lexAt (fun j => if j = 0 then a0 == b0 else a1 == b1) (fun j => if j = 0 then decide (b0 ≤ a0) else decide (b1 ≤ a1)) (decide ((#[Value.int a0 t0, Value.int a1 t1] : Array Value).size ≥ (#[Value.int b0 y0, Value.int b1 y1] : Array Value).size)) 0 (min (#[Value.int a0 t0, Value.int a1 t1] : Array Value).size (#[Value.int b0 y0, Value.int b1 y1] : Array Value).size) = !HT.lexLt [a0, a1] [b0, b1] := by
    rw [lexLt2]
    show (if (a0 == b0) = true then (if (a1 == b1) = true then true else decide (b1 ≤ a1)) else decide (b0 ≤ a0)) = _
    by_cases h0 : a0 = b0
    · by_cases h1 : a1 = b1
      · rw [if_pos (beq_iff_eq.mpr h0), if_pos (beq_iff_eq.mpr h1), decide_eq_false (by omega)]
        rfl
      · rw [if_pos (beq_iff_eq.mpr h0), if_neg (fun h => h1 (beq_iff_eq.mp h))]
        rw [← decide_not]
        exact decide_eq_decide.mpr (by omega)
    · rw [if_neg (fun h => h0 (beq_iff_eq.mp h)), ← decide_not]
      exact decide_eq_decide.mpr (by omega)
  rw [e] at R
  exact R X.prog X.w X.xe (EP X pins σ Q) ⟨.bl _, H, I, rfl, q⟩
end
def ownD : Option (Nat × List (Nat × Nat)) → PyData
  | none => .none
  | some (n, ps) => .list [netD n ps]
theorem pairs_lay : ∀ ps : List (Nat × Nat), PyData.canLayAll0 (ps.map pairD) = true ∧ PyData.depthAll (ps.map pairD) ≤ 3
  | [] => ⟨rfl, by decide⟩
  | p :: r => by
    obtain ⟨h1, h2⟩ := pairs_lay r
    refine ⟨?_, ?_⟩
    · show (true && PyData.canLayAll0 (r.map pairD)) = true
      rw [h1]
      rfl
    · have : PyData.depth (pairD p) ≤ 3 := by
        simp [pairD, PyData.depth, PyData.depthAll]
      simp only [List.map_cons, PyData.depthAll]
      omega
theorem netD_shaped (n : Nat) (ps : List (Nat × Nat)) : SeqAt.shaped (netD n ps) = true ∧ SeqAt.shaped (.list [netD n ps]) = true ∧ (netD n ps).canLay0 = true := by
  obtain ⟨h1, h2⟩ := pairs_lay ps
  have e : (netD n ps).canLay0 = true := by
    show (true && (PyData.canLayAll0 (ps.map pairD) && true)) = true
    rw [h1]
    rfl
  have d : (netD n ps).depth ≤ 6 := by
    simp only [netD, PyData.depth, PyData.depthAll]
    omega
  refine ⟨?_, ?_, e⟩
  · show (_ && decide _) = true
    rw [e, decide_eq_true (by omega)]
    rfl
  · have d2 : (PyData.list [netD n ps]).depth ≤ 8 := by
      simp only [PyData.depth, PyData.depthAll]
      omega
    show ((PyData.canLay0 (netD n ps) && true) && decide _) = true
    rw [e, decide_eq_true (by omega)]
    rfl
theorem ownD_shaped : ∀ r, SeqAt.shaped (ownD r) = true
  | none => rfl
  | some (n, ps) => (netD_shaped n ps).2.1
theorem shaped_eqv {d : PyData} (h : SeqAt.shaped d = true) : PyData.eqv d d = true := by
  refine SeqAt.eqv_refl d ?_
  have h2 : (d.canLay0 && decide (d.depth ≤ 64)) = true := h
  exact (Bool.and_eq_true _ _ ▸ h2 : _ ∧ _).1
section
variable {P : Program} {w : World} {K : PySem.W.Frag} {mg : Str → Option Value} {base : Heap}
def figV : Option Nat → V
  | none => .non
  | some k => .int k
def sp_figures : Sp := fun vs H Q _ => ∃ t : Str, vs = [.str t] ∧ ∀ H', Same H H' → Q (figV (numS t)) H'
theorem figs_eq (t : Str) : ∀ l : List Nat, (l.filterMap fun k => if t = strI k then some (k : Int) else none).head? = Option.map (fun k : Nat => (k : Int)) (l.find? fun k => decide (t = strI k))
  | [] => rfl
  | k :: l => by
    rw [List.filterMap_cons, List.find?_cons]
    by_cases h : t = strI k
    · rw [if_pos h, decide_eq_true h]
      rfl
    · rw [if_neg h, decide_eq_false h]
      exact figs_eq t l
theorem cal_figures (A : At K mg "_law_figures" s_law_figures) (B : Bi mg) : Cal P w K mg base 1 "_law_figures" sp_figures := by
  have nd := sc_law_figures.nd
  refine A.cal sc_law_figures (fun _ _ _ _ _ _ us hl => match us, hl with | [_], _ => rfl) ?_ fun f cdv A' outer s H vs Q E hr h => ⟨_, (pss_cons (ps_setLc (i := 1) (own := [("k", 2)]) rfl nd rfl rfl (sw_true rfl rfl rfl (by decide +kernel)) (pi_range1 (by rfl) B.range (pa_cons pe_int pa_nil)) (blkOk_by (own := [("k", 2)]) (N := N_law_figures) (sc := defScope s_law_figures) (by decide +kernel)) (fun _ _ _ _ _ => (pg_name (i := 2) nd rfl (.inl rfl) (.inr rfl))) (fun _ _ _ _ _ => (pts_one (pt_cmpR op_eq (pe_callTy call_str_int (by rfl) B.str_ (by decide +kernel) (pa_cons (pv 2) pa_nil)) (pv 0) (nomark _)))) (fun _ _ _ _ _ => (pv 2)))
  (pss_one (ps_ret (pe_ifExp (pt_truthK (K := K) rfl (pv 1) (by intro _; rfl)) (pe_ix (ix_listK (K := K) rfl) (pv 1) pe_int (fun _ _ => rfl)) pe_non)))), ?_⟩
  · rintro vs H Q E ⟨t, rfl, _⟩
    rfl
  · obtain ⟨t, rfl, q⟩ := h
    refine ⟨_, rfl, by omega, by omega, fun D hD => ?_⟩
    refine comp_range (lo := 0) (n := 41) (sizeBig (by omega)) (fun k => if t = strI k then some (k : Int) else none) persNm hD ?_ ?_
    · intro i H2 Yes No hi sm2 yes no
      rw [Int.zero_add]
      refine ⟨rfl, _, rfl, _, rfl, log_small (by omega), _, rfl, rfl, _, rfl, ifD (fun c => ?_) (fun c => ?_)⟩
      · exact ⟨_, rfl, yes i (if_pos (V.str.inj c).symm) _ _ (Same.refl _) rfl⟩
      · exact no (if_neg fun e => c (congrArg V.str e.symm)) _ (Same.refl _)
    · intro H2 ys sm2 hy pr
      have e := pairedNm_eq pr
      have hh := figs_eq t (List.range 41)
      rw [show (List.range 41).find? (fun k => decide (t = strI k)) = numS t from rfl] at hh
      have q' := q H2 sm2
      subst e
      clear pr
      generalize ((List.range 41).filterMap fun k => if t = strI k then some (k : Int) else none) = L at hh hy
      cases L with
      | nil =>
        refine ⟨_, rfl, _, .inl ⟨_, SqL.of hy, rfl⟩, ?_⟩
        cases e : numS t with
        | none =>
          rw [e] at q'
          exact q'
        | some k => rw [e] at hh; cases hh
      | cons z zs =>
        refine ⟨_, rfl, _, .inl ⟨_, SqL.of hy, rfl⟩, ?_⟩
        cases e : numS t with
        | none => rw [e] at hh; cases hh
        | some k =>
          rw [e] at q' hh
          have ez : z = (k : Int) := Option.some.inj hh
          subst ez
          exact ⟨_, rfl, _, _, _, _, rfl, rfl, SqL.of hy, atI_nat (j := 0) (v := .int k) rfl, q'⟩
theorem ifNS {i j : Str} {A B : Prop} (h1 : i ≠ j → A) (h2 : i = j → B) : if (!decide (V.str i = V.str j)) = true then A else B := by
  by_cases h : i = j
  · rw [decide_eq_true (congrArg V.str h)]
    exact iteF (h2 h)
  · rw [decide_eq_false fun e => h (V.str.inj e)]
    exact iteT (h1 h)
/-- a number of figures, or none -/
def Fg (_ : Hp) (v : V) (o : Option Nat) : Prop := v = figV o
theorem persFg : PersT Fg := fun _ _ _ _ _ h => h
theorem pairedFg_eq {H : Hp} : ∀ {vs : List V} {ns : List (Option Nat)}, Paired (Fg H) vs ns → vs = ns.map figV
  | _, _, .nil => rfl
  | _, _, .cons h t => by rw [show _ = figV _ from h, pairedFg_eq t]; rfl
theorem filterMap_if {α β : Type} (p : α → Bool) (g : α → β) : ∀ l : List α, (l.filterMap fun x => if p x = true then some (g x) else none) = (l.filter p).map g
  | [] => rfl
  | x :: l => by
    rw [List.filterMap_cons, List.filter_cons]
    by_cases h : p x = true
    · rw [if_pos h, if_pos h, filterMap_if p g l]
      rfl
    · rw [if_neg h, if_neg h, filterMap_if p g l]
theorem eqv_pairs : ∀ as bs : List (Nat × Nat), PyData.eqvAll (as.map pairD) (bs.map pairD) = decide (as = bs)
  | [], [] => rfl
  | [], _ :: _ => rfl
  | _ :: _, [] => rfl
  | a :: as, b :: bs => by
    have e : PyData.eqv (pairD a) (pairD b) = decide (a = b) := by
      obtain ⟨a1, a2⟩ := a
      obtain ⟨b1, b2⟩ := b
      simp only [pairD, PyData.eqv, PyData.eqvAll, Bool.and_true]
      rw [Bool.eq_iff_iff]
      simp
      omega
    rw [List.map_cons, List.map_cons, PyData.eqvAll, e, eqv_pairs as bs]
    rw [Bool.eq_iff_iff]
    simp
theorem dps_ints {K : PySem.W.Frag} {H : Hp} : ∀ ns : List Int, DpAll K H (ns.map V.int) (ns.map PyData.int)
  | [] => .nil
  | _ :: ns => .cons (.int _) (dps_ints ns)
theorem shaped_pairs (ps : List (Nat × Nat)) : SeqAt.shaped (.list (ps.map pairD)) = true := by
  obtain ⟨h1, h2⟩ := pairs_lay ps
  have d : (PyData.list (ps.map pairD)).depth ≤ 6 := by
    simp only [PyData.depth]
    omega
  show (PyData.canLayAll0 (ps.map pairD) && decide _) = true
  rw [h1, decide_eq_true (by omega)]
  rfl
theorem ints_lay : ∀ ps : List Int, PyData.canLayAll0 (ps.map PyData.int) = true ∧ PyData.depthAll (ps.map PyData.int) ≤ 3
  | [] => ⟨rfl, by decide⟩
  | p :: r => by
    obtain ⟨h1, h2⟩ := ints_lay r
    refine ⟨?_, ?_⟩
    · show (true && PyData.canLayAll0 (r.map PyData.int)) = true
      rw [h1]
      rfl
    · have : PyData.depth (PyData.int p) ≤ 3 := by simp [PyData.depth]
      simp only [List.map_cons, PyData.depthAll]
      omega
theorem shaped_ints (ps : List Int) : SeqAt.shaped (.list (ps.map PyData.int)) = true := by
  obtain ⟨h1, h2⟩ := ints_lay ps
  have d : (PyData.list (ps.map PyData.int)).depth ≤ 6 := by
    simp only [PyData.depth]
    omega
  show (PyData.canLayAll0 (ps.map PyData.int) && decide _) = true
  rw [h1, decide_eq_true (by omega)]
  rfl
theorem eqv_ints_nil (ns : List Int) : PyData.eqv (.list (ns.map PyData.int)) (.list []) = decide (ns = []) := by
  rw [PyData.eqv]
  cases ns <;> rfl
/-- the law's own reading, in pieces -/
theorem ownM_noend {t w : Str} {ws : List Str} (e : Txt.split t blank = w :: ws) (h : cutS w (some (-1)) none ≠ colon) : ownM t = none := by
  unfold ownM
  rw [e]
  dsimp only
  rw [if_neg h]
theorem ownM_nohead {t w : Str} {ws : List Str} (e : Txt.split t blank = w :: ws) (h : numS (cutS w none (some (-1))) = none) : ownM t = none := by
  unfold ownM
  rw [e]
  dsimp only
  rw [h]
  split <;> rfl
theorem ownM_nopairs {t w : Str} {ws : List Str} (e : Txt.split t blank = w :: ws) (h : pairsM ws = none) : ownM t = none := by
  unfold ownM
  rw [e]
  dsimp only
  rw [h]
  split
  · split <;> rfl
  · rfl
def tooHigh (ps : List (Nat × Nat)) (k : Nat) : Bool := !HT.lexLt [(((ps.getD k (0, 0)).1 : Nat) : Int), ((ps.getD k (0, 0)).2 : Nat)] [(((ps.getD (k + 1) (0, 0)).1 : Nat) : Int), ((ps.getD (k + 1) (0, 0)).2 : Nat)]
def low (n : Nat) (p : Nat × Nat) : Bool := decide (p.1 < p.2 ∧ p.2 < n)
theorem ownM_all {t w : Str} {ws : List Str} {ps : List (Nat × Nat)} {n : Nat} (e : Txt.split t blank = w :: ws) (he : cutS w (some (-1)) none = colon) (hp : pairsM ws = some ps) (hn : numS (cutS w none (some (-1))) = some n) :
    ownM t = if ps.filter (low n) = ps ∧ (List.range (ps.length - 1)).filter (tooHigh ps) = [] then some (n, ps) else none := by
  unfold ownM
  rw [e]
  dsimp only
  rw [if_pos he, hn, hp]
  rfl
def sp_lread : Sp := fun vs H Q _ => ∃ t : Str, vs = [.str t] ∧ t.length ≤ 100000 ∧ ∀ v H', Same H H' → Dp K H' v (ownD (readM t)) → Q v H'
theorem cal_lread {CB : Addr} (A : At K mg "_law_read" s_law_read) (B : Bi mg) (x_BadNet : ExcC K mg "BadNet" CB) (hx : PySem.W.exmOne K (.ref CB) (.ref CB) = some true) (c_read : Cal P w K mg base 4 "read" (sp_read CB)) : Cal P w K mg base 5 "_law_read" (sp_lread (K := K)) := by
  have nd := sc_law_read.nd
  refine A.cal sc_law_read (fun _ _ _ _ _ _ us hl => match us, hl with | [_], _ => rfl) ?_ fun f cdv A' outer s H vs Q E hr h => ⟨_, (pss_one (ps_try_only (Wout := fun _ _ _ _ => False) rfl rfl ⟨rfl, by decide, Or.inl x_BadNet.g⟩ takes0
  (fun W pn xe tk _ => (pss_one (ps_ret (pe_lst (pa_cons (pe_calS c_read hr (by decide) (by rfl) (fun σ => passAt tk σ) (pa_cons (pv 0) pa_nil)) pa_nil)))))
  (fun _ _ _ _ _ _ _ => (pss_one (ps_ret pe_non))))), ?_⟩
  · rintro vs H Q E ⟨t, rfl, _⟩
    rfl
  · obtain ⟨t, rfl, hl, q⟩ := h
    refine ⟨_, rfl, t, rfl, hl, fun n ps e v H' sm hN => ?_, fun e H' sm => ?_⟩
    · refine ⟨by show 1 ≤ sizeLine; decide, fun p hp => q _ _ (sNew sm hp) ?_⟩
      rw [e]
      exact .lst (SqL.of upd_same) (.cons ((hN.keep (sKt (same_laid hp))).dp) .nil)
    · refine ⟨true, hx, fun _ a ha => ?_, fun q => nomatch q⟩
      refine q _ _ sm ?_
      rw [e]
      exact .non
/-! ### the law's own reading -/
def sp_own : Sp := fun vs H Q _ => ∃ t : Str, vs = [.str t] ∧ t.length ≤ 100000 ∧ ∀ v H', Same H H' → Dp K H' v (ownD (ownM t)) → Q v H'
theorem cal_own (A : At K mg "_law_own" s_law_own) (B : Bi mg) (c_law_figures : Cal P w K mg base 1 "_law_figures" sp_figures) : Cal P w K mg base 2 "_law_own" (sp_own (K := K)) := by
  have nd := sc_law_own.nd
  refine A.cal sc_law_own (fun _ _ _ _ _ _ us hl => match us, hl with | [_], _ => rfl) ?_ fun f cdv A' outer s H vs Q E hr h => ⟨_, (pss_cons (ps_set (i := 1) nd rfl (.inl rfl) (pe_split (pv 0) pe_str))
  (pss_cons (ps_if (PW.pt (pw_or (pt_cmpR op_ne (pe_slice sl_str (pe_ix (ix_listK (K := K) rfl) (pv 1) pe_int (fun _ _ => rfl)) (po_some (pe_un un_neg pe_int)) po_none) pe_str (nomark _)) (pw_or1 (pt_cmpR op_isN (pe_cal c_law_figures hr (by decide) (by rfl) passE (pa_cons (pe_slice sl_str (pe_ix (ix_listK (K := K) rfl) (pv 1) pe_int (fun _ _ => rfl)) po_none (po_some (pe_un un_neg pe_int))) pa_nil)) pe_non (nomark _))))) (pss_one (ps_ret pe_non)) pss_nil)
  (pss_cons (ps_set (i := 2) nd rfl (.inr rfl) (pe_lst pa_nil))
  (pss_cons (ps_for passOwn rfl (pi_listK (K := K) rfl (pe_slice (sl_listK (K := K) rfl) (pv 1) (po_some pe_int) po_none)) (pg_name (i := 3) nd rfl (.inl rfl)) (pss_cons (ps_setLc (i := 4) (own := [("one", 7)]) rfl nd rfl rfl (sw_true rfl rfl rfl (by decide +kernel)) (pi_listK (K := K) rfl (pe_split (pv 3) pe_str)) (blkOk_by (own := [("one", 7)]) (N := N_law_own) (sc := defScope s_law_own) (by decide +kernel)) (fun _ _ _ _ _ => (pg_name (i := 7) nd rfl (.inl rfl) (.inr rfl))) (fun _ _ _ _ _ => pts_nil) (fun _ _ _ _ _ => (pe_cal c_law_figures hr (by decide) (by rfl) passL (pa_cons (pv 7) pa_nil))))
  (pss_cons (ps_if (PW.pt (pw_or (pt_cmpR op_ne (pe_callB (call_lenK (K := K) rfl) (by rfl) B.len (by decide +kernel) (pa_cons (pv 4) pa_nil)) pe_int (nomark _)) (pw_or1 (pt_cmpR (op_in_seqK (K := K) rfl) pe_non (pv 4) rfl)))) (pss_one (ps_ret pe_non)) pss_nil)
  (pss_one (ps_expr (pe_bm PySem.F.plainAttrs_list PySem.F.slot_list_append PySem.F.type_list_append mt_append (pv 2) (pa_cons (pe_callTy (call_tuple_ofK (K := K) rfl) (by rfl) B.tuple (by decide +kernel) (pa_cons (pv 4) pa_nil)) pa_nil)))))))
  (pss_cons (ps_set (i := 5) nd rfl (.inr rfl) (pe_cal c_law_figures hr (by decide) (by rfl) passE (pa_cons (pe_slice sl_str (pe_ix (ix_listK (K := K) rfl) (pv 1) pe_int (fun _ _ => rfl)) po_none (po_some (pe_un un_neg pe_int))) pa_nil)))
  (pss_cons (ps_setLc (i := 6) (own := [("pair", 8)]) rfl nd rfl rfl (sw_true rfl rfl rfl (by decide +kernel)) (pi_listK (K := K) rfl (pv 2)) (blkOk_by (own := [("pair", 8)]) (N := N_law_own) (sc := defScope s_law_own) (by decide +kernel)) (fun _ _ _ _ _ => (pg_name (i := 8) nd rfl (.inl rfl) (.inr rfl))) (fun _ _ _ _ _ => (pts_one (pt_chain op_lt op_lt (pe_ix (ix_tupK (K := K) rfl) (pv 8) pe_int (fun _ _ => rfl)) (pe_ix (ix_tupK (K := K) rfl) (pv 8) pe_int (fun _ _ => rfl)) (pv 5)))) (fun _ _ _ _ _ => (pv 8)))
  (pss_cons (ps_if (PW.pt (pw_or (pt_cmpR (op_neDK (K := K) rfl hr.units) (pv 6) (pv 2) (nomark _)) (pw_or1 (pt_cmpR (op_neDK (K := K) rfl hr.units) (pe_lc (own := [("k", 9)]) rfl nd (pi_range1 (by rfl) B.range (pa_cons (pe_op op_sub (pe_callB (call_lenK (K := K) rfl) (by rfl) B.len (by decide +kernel) (pa_cons (pv 2) pa_nil)) pe_int) pa_nil)) (blkOk_by (own := [("k", 9)]) (N := N_law_own) (sc := defScope s_law_own) (by decide +kernel)) (fun _ _ _ _ _ => (pg_name (i := 9) nd rfl (.inl rfl) (.inr rfl))) (fun _ _ _ _ _ => (pts_one (pt_cmpR (op_geTK (K := K) rfl hr.units0) (pe_ix (ix_listK (K := K) rfl) (pv 2) (pv 9) (fun _ _ => rfl)) (pe_ix (ix_listK (K := K) rfl) (pv 2) (pe_op op_add (pv 9) pe_int) (fun _ _ => rfl)) (nomark _)))) (fun _ _ _ _ _ => (pv 9))) (pe_lst pa_nil) (nomark _))))) (pss_one (ps_ret pe_non)) pss_nil)
  (pss_one (ps_ret (pe_lst (pa_cons (pe_tup (pa_cons (pv 5) (pa_cons (pe_callTy (call_tuple_ofK (K := K) rfl) (by rfl) B.tuple (by decide +kernel) (pa_cons (pv 2) pa_nil)) pa_nil))) pa_nil))))))))))), ?_⟩
  · rintro vs H Q E ⟨t, rfl, _⟩
    rfl
  · obtain ⟨t, rfl, hl, q⟩ := h
    -- words = text.split(' ')
    obtain ⟨w0, ws, ew⟩ := split_some t
    have hlen : (w0 :: ws).length ≤ 100001 := by
      rw [← ew]
      have := split_len (t := t) tl_blank
      omega
    have hpart : ∀ x ∈ w0 :: ws, x.length ≤ 100000 := fun x hx => by
      rw [← ew] at hx
      exact Nat.le_trans (split_part hx) hl
    have hw0 := hpart w0 (List.mem_cons_self ..)
    refine ⟨_, rfl, ⟨_, rfl⟩, _, _, rfl, rfl, rfl, strBig (by omega), fun pw hpw => ?_⟩
    rw [show Txt.split t (Str.ofString " ") = w0 :: ws from ew]
    have sw := same_laid (o := .lst ((w0 :: ws).map V.str)) hpw
    have hw : (upd H pw (.lst ((w0 :: ws).map V.str))) pw = some (.lst ((w0 :: ws).map V.str)) := upd_same
    have bad : ∀ H', Same H H' → ownM t = none → Q .non H' := fun H' s' e => q _ H' s' (by rw [e]; exact .non)
    refine ⟨_, rfl, _, _, _, _, rfl, rfl, SqL.of hw, atI_nat (j := 0) (v := .str w0) rfl, _, rfl, _, rfl, w0, rfl, strBig (by omega), rfl, _, rfl, ifNS (fun c1 => ?_) (fun c1 => ?_)⟩
    · exact iteT (bad _ sw (ownM_noend ew c1))
    refine ⟨_, rfl, _, _, _, _, rfl, rfl, SqL.of hw, atI_nat (j := 0) (v := .str w0) rfl, _, rfl, _, rfl, w0, rfl, strBig (by omega), cutS w0 none (some (-1)), rfl, fun H1 s1 => ⟨rfl, _, rfl, ?_⟩⟩
    cases en : numS (cutS w0 none (some (-1))) with
    | none => exact bad _ (sw.trans s1) (ownM_nohead ew en)
    | some n =>
    have s2 := sw.trans s1
    have hw1 := s1 _ _ hw
    refine iteF ?_
    refine ⟨Nat.zero_le _, fun pp hpp => ?_⟩
    have spp := sNew s2 (o := .lst []) hpp
    have npw : pw ≠ pp := ne_of_none hw1 hpp
    have hHpp : H pp = none := by
      cases q0 : H pp with
      | none => rfl
      | some o => rw [s2 _ _ q0] at hpp; cases hpp
    have hw2 : (upd H1 pp (.lst [])) pw = some (.lst ((w0 :: ws).map V.str)) := by
      rw [upd_ne npw]
      exact hw1
    -- for word in words[1:]
    refine ⟨_, rfl, _, rfl, _, _, rfl, SqL.of hw2, fun ps hps => ?_⟩
    rw [show cutV ((w0 :: ws).map V.str) (some 1) none = ws.map V.str from cutV_tail]
    have npp : ps ≠ pp := fun e => by rw [e, upd_same] at hps; cases hps
    have lws : ws.length ≤ 100000 := by
      rw [List.length_cons] at hlen
      omega
    refine ⟨ps, rfl, ⟨_, SqL.of upd_same⟩, for_list (K := K) (a := ps) (xs := ws.map V.str) (fun i σ H1 => ∃ v3 v4, σ = [some (.str t), some (.ref pw), some (.ref pp), v3, v4, none, none, none, none, none] ∧ Same H H1 ∧ H1 pw = some (.lst ((w0 :: ws).map V.str)) ∧ H1 ps = some (.lst (ws.map V.str)) ∧
      ∃ us qs, H1 pp = some (.lst us) ∧ pairsM (ws.take i) = some qs ∧ Paired (Pr H1) us qs ∧ us.length = i) ⟨none, none, rfl, sNew spp hps, ?_, upd_same, [], [], ?_, rfl, .nil, rfl⟩ (fun i σ H1 _ ⟨_, _, _, _, _, h, _⟩ => SqL.of h) ?_ ?_⟩
    · rw [upd_ne (ne_of_none hw2 hps)]
      exact hw2
    · rw [upd_ne (fun e => npp e.symm)]
      exact upd_same
    · rintro i x σ H1 hx ⟨v3, v4, rfl, sm, hw3, hs3, us, qs, hu, hq, pr, hlu⟩
      have hi : i < ws.length := by
        have h := (List.getElem?_eq_some_iff.mp hx).1
        rw [List.length_map] at h
        exact h
      rw [List.getElem?_map, List.getElem?_eq_getElem hi] at hx
      have hx2 : V.str ws[i] = x := Option.some.inj hx
      subst hx2
      have hmem : ws[i] ∈ ws := List.getElem_mem hi
      have hwl := hpart _ (List.mem_cons_of_mem w0 hmem)
      -- ends = [figures(one) for one in word.split('-')]
      refine ⟨_, rfl, ⟨_, rfl⟩, _, _, rfl, rfl, rfl, strBig (by omega), fun pe hpe => ?_⟩
      have spe := sNew sm (o := .lst ((Txt.split ws[i] (Str.ofString "-")).map V.str)) hpe
      have lsp : (Txt.split ws[i] (Str.ofString "-")).length ≤ 100001 := by
        have := split_len (t := ws[i]) tl_minus
        exact Nat.le_trans this (by omega)
      refine ⟨pe, rfl, ⟨_, SqL.of upd_same⟩, fun D hD => ?_⟩
      refine comp_list (K := K) persTx (fun z => some (numS z)) persFg hD (SqL.of upd_same) (by rw [List.length_map]; exact sizeBig (by omega)) (pairedTx _ _) ?_ ?_
      · rintro z v H2 Yes No hz rfl sm2 yes no
        refine ⟨rfl, _, rfl, z, rfl, fun H3 s3 => ?_⟩
        exact yes _ rfl _ _ s3 rfl
      · intro H2 ys sm2 hy pr2
        rw [filterMap_some] at pr2
        have e := pairedFg_eq pr2
        subst e
        rw [List.map_map] at hy
        have s3 := (same_laid hpe).trans sm2
        have s4 := sm.trans s3
        have hu4 := s3 _ _ hu
        have bad2 : wordM ws[i] = none → Q .non H2 := fun e => bad _ s4 (ownM_nopairs ew (pairsM_none hmem e))
        refine ⟨_, rfl, _, _, rfl, .inl ⟨_, SqL.of hy, rfl⟩, rfl, _, rfl, ifNI (fun c3 => ?_) (fun c3 => ?_)⟩
        · refine iteT (bad2 (wordM_not fun e => c3 ?_))
          rw [List.length_map]
          exact congrArg Nat.cast e
        · obtain ⟨a0, a1, ea⟩ : ∃ a b, Txt.split ws[i] (Str.ofString "-") = [a, b] := two_of (l := Txt.split ws[i] (Str.ofString "-")) (by
            have h := c3
            rw [List.length_map] at h
            omega)
          rw [ea] at hy
          have hw2 := wordM_two ea
          have hy2 : H2 D = some (.lst [figV (numS a0), figV (numS a1)]) := hy
          refine ⟨_, rfl, D, _, rfl, .inl (SqL.of hy2), rfl, ?_, _, rfl, ?_⟩
          · cases numS a0 <;> cases numS a1 <;> rfl
          cases e0 : numS a0 with
          | none => exact bad2 (by rw [hw2, e0])
          | some x0 =>
          cases e1 : numS a1 with
          | none => exact bad2 (by rw [hw2, e0, e1])
          | some x1 =>
          rw [e0, e1] at hy2
          refine ⟨_, rfl, .inl ⟨rfl, _, SqL.of hu4⟩, _, rfl, _, _, rfl, .inl ⟨SqL.of hy2, fun pt hpt => ?_⟩⟩
          have hu5 : (upd H2 pt (.tup [.int x0, .int x1])) pp = some (.lst us) := same_laid hpt _ _ hu4
          refine ⟨pp, us, _, rfl, rfl, hu5, sizeBig (by omega), ?_⟩
          have k5 : KeepT H1 (upd (upd H2 pt (.tup [.int x0, .int x1])) pp (.lst (us ++ [.ref pt]))) := KeepT.trans (sKt (sNew s3 hpt)) (KeepT.lst hu5)
          refine ⟨_, _, rfl, sPut (sNew s4 hpt) hHpp, ?_, ?_, us ++ [.ref pt], qs ++ [(x0, x1)], upd_same, ?_, ?_, by rw [List.length_append, hlu]; rfl⟩
          · rw [upd_ne npw]
            exact sNew s3 hpt _ _ hw3
          · rw [upd_ne npp]
            exact sNew s3 hpt _ _ hs3
          · rw [List.take_add_one, List.getElem?_eq_getElem hi]
            refine pairsM_snoc hq ?_
            rw [hw2, e0, e1]
          · refine pApp (pMono persPr k5 pr) (.cons ⟨pt, rfl, ?_⟩ .nil)
            rw [upd_ne (Ne.symm (ne_of_none hu4 hpt))]
            exact upd_same
    · rintro σ H1 ⟨v3, v4, rfl, sm, hw3, hs3, us, qs, hu, hq, pr, hlu⟩
      rw [List.length_map] at hlu
      rw [List.length_map, List.take_length] at hq
      have al := ownM_all ew c1 hq en
      have lq := pr.length
      refine ⟨_, rfl, _, _, _, _, rfl, rfl, SqL.of hw3, atI_nat (j := 0) (v := .str w0) rfl, _, rfl, _, rfl, w0, rfl, strBig (by omega), cutS w0 none (some (-1)), rfl, fun H5 s5 => ?_⟩
      rw [en]
      have sm5 := sm.trans s5
      have hu5 := s5 _ _ hu
      have pr5 : Paired (Pr H5) us qs := pMono persPr (sKt s5) pr
      -- good
      refine ⟨_, rfl, pp, rfl, ⟨_, SqL.of hu5⟩, fun D hD => ?_⟩
      refine comp_list (K := K) persPr (fun p => if low n p = true then some p else none) persPr hD (SqL.of hu5) (sizeBig (by omega)) pr5 ?_ ?_
      · rintro p v H2 Yes No hp ⟨tp, rfl, ht⟩ sm2 yes no
        have fin : (if low n p = true then Yes (.ref tp) H2 else No H2) := by
          by_cases hc : low n p = true
          · rw [if_pos hc]
            exact yes p (if_pos hc) _ _ (Same.refl _) ⟨tp, rfl, ht⟩
          · rw [if_neg hc]
            exact no (if_neg hc) _ (Same.refl _)
        refine ⟨rfl, _, rfl, _, _, _, _, rfl, rfl, SqT.of ht, rfl, _, rfl, _, _, _, _, rfl, rfl, SqT.of ht, rfl, _, _, rfl, rfl, _, rfl, ifD (fun c2 => ?_) (fun c2 => ?_)⟩
        · refine ⟨_, rfl, _, _, rfl, rfl, _, rfl, ?_⟩
          have e : low n p = decide ((p.2 : Int) < (n : Int)) := decide_eq_decide.mpr (by omega)
          rw [e] at fin
          by_cases hc : (p.2 : Int) < (n : Int)
          · rw [decide_eq_true hc] at fin ⊢
            exact ⟨_, rfl, fin⟩
          · rw [decide_eq_false hc] at fin ⊢
            exact fin
        · have e : low n p = false := decide_eq_false (by omega)
          rw [e] at fin
          exact ⟨_, rfl, fin⟩
      · intro H6 ys sm6 hy pr6
        have eg : qs.filterMap (fun p => if low n p = true then some p else none) = qs.filter (low n) := by rw [filterMap_if (low n) (fun p => p), List.map_id']
        rw [eg] at pr6
        have s6 := sm5.trans sm6
        have hu6 := sm6 _ _ hu5
        have pr7 : Paired (Pr H6) us qs := pMono persPr (sKt sm6) pr5
        have no : ¬ (qs.filter (low n) = qs ∧ (List.range (qs.length - 1)).filter (tooHigh qs) = []) → ∀ H', Same H6 H' → Q .non H' := fun h H' s' => bad _ (s6.trans s') (by rw [al, if_neg h])
        refine ⟨_, rfl, _, rfl, _, _, .lst (SqL.of hy) (net_of_pairs pr6), .lst (SqL.of hu6) (net_of_pairs pr7), shaped_pairs _, shaped_pairs _, _, rfl, ?_⟩
        rw [PyData.eqv, eqv_pairs]
        refine ifN (fun c2 => iteT (no (fun h => of_decide_eq_false c2 h.1) _ (Same.refl _))) (fun c2 => ?_)
        have c3 : qs.filter (low n) = qs := of_decide_eq_true c2
        refine ⟨_, rfl, _, _, rfl, .inl ⟨_, SqL.of hu6, rfl⟩, _, _, rfl, rfl, _, rfl, by omega, by omega, fun D2 hD2 => ?_⟩
        refine comp_range (lo := 0) (n := ((us.length : Int) - 1).toNat) (sizeBig (by omega)) (fun k => if tooHigh qs k = true then some (k : Int) else none) persNm hD2 ?_ ?_
        · intro k H7 Yes No hk sm7 yes no
          rw [Int.zero_add]
          have hu7 := sm7 _ _ hu6
          have gat : ∀ j, j < qs.length → qs[j]? = some (qs.getD j (0, 0)) := fun j hj => by
            rw [List.getD_eq_getElem?_getD, List.getElem?_eq_getElem hj]
            rfl
          have pr8 : Paired (Pr H7) us qs := pMono persPr (sKt sm7) pr7
          obtain ⟨v0, h0, t0, rfl, g0⟩ := pAt pr8 (gat k (by omega))
          obtain ⟨v1, h1, t1, rfl, g1⟩ := pAt pr8 (gat (k + 1) (by omega))
          refine ⟨rfl, _, rfl, _, rfl, _, _, _, _, rfl, rfl, SqL.of hu7, atI_nat (j := k) h0, _, rfl, _, rfl, _, _, rfl, rfl, _, _, _, _, rfl, rfl, SqL.of hu7, atI_nat (j := k + 1) h1, ?_⟩
          refine ⟨_, _, _, _, _, _, rfl, rfl, SqT.of g0, SqT.of g1, _, rfl, ?_⟩
          have fin : (if tooHigh qs k = true then Yes (.int k) H7 else No H7) := by
            by_cases hc : tooHigh qs k = true
            · rw [if_pos hc]
              exact yes _ (if_pos hc) _ _ (Same.refl _) rfl
            · rw [if_neg hc]
              exact no (if_neg hc) _ (Same.refl _)
          unfold tooHigh at fin
          refine ifB (fun c => ?_) (fun c => ?_)
          · rw [if_pos c] at fin
            exact ⟨_, rfl, fin⟩
          · rw [if_neg (by rw [c]; exact Bool.false_ne_true)] at fin
            exact fin
        · intro H8 zs sm8 hz pr8
          have e := pairedNm_eq pr8
          subst e
          rw [filterMap_if (tooHigh qs) (fun k : Nat => (k : Int)), show ((us.length : Int) - 1).toNat = qs.length - 1 by omega] at hz
          have s8 := sm8
          refine ⟨Nat.zero_le _, fun p9 hp9 => ?_⟩
          have s9 := sNew s8 (o := .lst []) hp9
          refine ⟨_, .list [], .lst (SqL.of (same_laid hp9 _ _ hz)) (dps_ints _), .lst (SqL.of upd_same) .nil, shaped_ints _, rfl, _, rfl, ?_⟩
          rw [eqv_ints_nil]
          refine ifN (fun c4 => no (fun h => of_decide_eq_false c4 (by rw [h.2]; rfl)) _ s9) (fun c4 => ?_)
          have c5 : (List.range (qs.length - 1)).filter (tooHigh qs) = [] := List.map_eq_nil_iff.mp (of_decide_eq_true c4)
          rw [if_pos ⟨c3, c5⟩] at al
          have hu9 := s9 _ _ hu6
          refine ⟨_, rfl, _, rfl, pp, us, rfl, .inl ⟨SqL.of hu9, fun l hl => ?_⟩⟩
          refine ⟨by show 2 ≤ sizeLine; decide, fun t2 ht2 => ⟨by show 1 ≤ sizeLine; decide, fun t3 ht3 => ?_⟩⟩
          have sA := sNew (same_laid (o := .tup us) hl) (o := .tup [figV (some n), .ref l]) ht2
          have sB := sNew sA (o := .lst [.ref t2]) ht3
          refine q _ _ ((s6.trans s9).trans sB) ?_
          rw [al]
          have prB := pMono persPr (sKt (s9.trans sA)) pr7
          have hN : Net (upd (upd (upd (upd H8 p9 (.lst [])) l (.tup us)) t2 (.tup [figV (some n), .ref l])) t3 (.lst [.ref t2])) (.ref t2) n qs := Net.keep ⟨t2, .ref l, rfl, upd_same, l, us, rfl, same_laid ht2 _ _ upd_same, prB⟩ (sKt (same_laid ht3))
          exact .lst (SqL.of upd_same) (.cons hN.dp .nil)
/-! ### a text with a sign changed -/
def sp_turned : Sp := fun vs H Q _ => ∃ (b l : Addr) (t : Str), vs = [.ref b, .str t] ∧ Box H b l ∧ t.length ≤ 50000 ∧ ∀ (z : Str) H', z.length ≤ 2 * t.length + 1 → Kp b l H H' → Q (.str z) H'
theorem cal_turned (A : At K mg "_law_turned" s_law_turned) (B : Bi mg) (c_law_take : Cal P w K mg base 1 "_law_take" sp_take) (c_law_pick : Cal P w K mg base 2 "_law_pick" (sp_pick K)) : Cal P w K mg base 3 "_law_turned" sp_turned := by
  have nd := sc_law_turned.nd
  refine A.cal sc_law_turned (fun _ _ _ _ _ _ us hl => match us, hl with | [_, _], _ => rfl) ?_ fun f cdv A' outer s H vs Q E hr h => ⟨_, (pss_cons (ps_set (i := 2) nd rfl (.inl rfl) (pe_cal c_law_take hr (by decide) (by rfl) passE (pa_cons (pv 0) (pa_cons (pe_op op_add (pe_callB call_len_str (by rfl) B.len (by decide +kernel) (pa_cons (pv 1) pa_nil)) pe_int) pa_nil))))
  (pss_cons (ps_par (i := 3) (j := 4) rfl nd rfl rfl (by decide) rfl rfl (pa_cons (pe_cal c_law_take hr (by decide) (by rfl) passE (pa_cons (pv 0) (pa_cons pe_int pa_nil))) (pa_cons (pe_cal c_law_pick hr (by decide) (by rfl) passE (pa_cons (pv 0) (pa_cons (pe_lst (pa_cons pe_str (pa_cons pe_str (pa_cons pe_str (pa_cons pe_str (pa_cons pe_str (pa_cons pe_str (pa_cons pe_str pa_nil)))))))) pa_nil))) pa_nil)) (by rfl))
  (pss_cons (ps_if (pt_cmpR op_eq (pv 3) pe_int (nomark _)) (pss_one (ps_ret (pe_op op_add_str (pe_slice sl_str (pv 1) po_none (po_some (pv 2))) (pe_slice sl_str (pv 1) (po_some (pe_op op_add (pv 2) pe_int)) po_none)))) pss_nil)
  (pss_one (ps_ret (pe_op op_add_str (pe_op op_add_str (pe_slice sl_str (pv 1) po_none (po_some (pv 2))) (pv 4)) (pe_slice sl_str (pv 1) (po_some (pe_op op_sub (pe_op op_add (pv 2) (pv 3)) pe_int)) po_none))))))), ?_⟩
  · rintro vs H Q E ⟨b, l, t, rfl, _⟩
    rfl
  · obtain ⟨b, l, t, rfl, hb, hl, q⟩ := h
    have hb0 := hb
    refine ⟨_, rfl, _, rfl, t, rfl, strBig (by omega), _, _, rfl, rfl, b, l, _, rfl, hb, by omega, by omega, fun at_ H1 a0 a1 k1 => ?_⟩
    refine ⟨_, rfl, b, l, _, rfl, k1.box, by decide, by decide, fun way H2 y0 y1 k2 => ?_⟩
    refine ⟨_, rfl, by show 7 ≤ sizeLine; decide, fun pm hpm => ?_⟩
    have k12 := (k1.trans k2).then (same_laid (o := .lst [.str (Str.ofString "0"), .str (Str.ofString "1"), .str (Str.ofString "4"), .str (Str.ofString "-"), .str (Str.ofString ":"), .str (Str.ofString " "), .str (Str.ofString "9")]) hpm)
    have hmb : pm ≠ b := fun e => by
      obtain ⟨_, _, _, _, g, _⟩ := k2.box
      rw [e, g] at hpm
      cases hpm
    refine ⟨b, l, pm, _, rfl, k12.box, .inl ⟨upd_same, hmb⟩, by simp, by decide, fun v H3 hv k3 => ?_⟩
    have k := k12.trans k3
    obtain ⟨c, rfl, hc⟩ : ∃ c : Str, v = .str c ∧ c.length = 1 := by
      simp only [List.mem_cons, List.not_mem_nil, or_false] at hv
      rcases hv with rfl | rfl | rfl | rfl | rfl | rfl | rfl <;> exact ⟨_, rfl, rfl⟩
    have lc : ∀ lo hi, (cutS t lo hi).length ≤ t.length := fun lo hi => cutS_length t lo hi
    refine ⟨_, _, rfl, _, rfl, rfl, _, rfl, ifI (fun c1 => ?_) (fun c1 => ?_)⟩
    · refine ⟨_, rfl, _, rfl, _, rfl, t, rfl, strBig (by omega), _, rfl, _, rfl, _, _, rfl, rfl, _, rfl, t, rfl, strBig (by omega), _, _, rfl, rfl, ?_, q _ _ ?_ k⟩
      · have h1 := lc none (some at_)
        have h2 := lc (some (at_ + 1)) none
        exact strBig (by omega)
      · have h1 := lc none (some at_)
        have h2 := lc (some (at_ + 1)) none
        rw [len_app]
        omega
    · have h1 := lc none (some at_)
      have h2 := lc (some (at_ + way - 1)) none
      refine ⟨_, rfl, _, rfl, _, rfl, t, rfl, strBig (by omega), _, rfl, _, _, rfl, rfl, ?_, ?_⟩
      · exact strBig (by omega)
      refine ⟨_, rfl, _, rfl, _, rfl, _, _, rfl, rfl, _, _, rfl, rfl, _, rfl, t, rfl, strBig (by omega), _, _, rfl, rfl, ?_, q _ _ ?_ k⟩
      · rw [len_app]
        exact strBig (by omega)
      · rw [len_app, len_app]
        omega
end
end Ns

/-! Own layer L: the law of texts. -/
namespace Ns
open PySem PySem.Spec PyProof.Rows L2
local macro_rules | `(tactic| walk_at "look") => `(tactic| first | assumption | exact upd_same | (refine (upd_ne (by first | assumption | exact Ne.symm (by assumption))).trans ?_; walk_at "look"))
local macro_rules | `(tactic| walk_at "cond") => `(tactic| first | assumption | omega | (dsimp only; omega) | exact ⟨by omega, by omega⟩ | decide | exact ⟨by decide, by decide, by decide⟩ | exact .inr ⟨by decide, by decide⟩ | exact .inl ⟨by decide, by decide⟩ | exact .inr ⟨by omega, by omega⟩ | exact .inl ⟨by omega, by omega⟩)
local macro_rules | `(tactic| walk_at "rd1") => `(tactic| first
  | refine ⟨_, rfl, ?_⟩
  | refine ⟨_, _, rfl, rfl, ?_⟩
  | refine ⟨rfl, ?_⟩
  | refine ⟨_, _, rfl, rfl, (by walk_at "cond"), ?_⟩
  | refine ⟨_, _, _, _, rfl, rfl, SqL.of (by walk_at "look"), rfl, ?_⟩
  | refine ⟨_, _, _, _, rfl, rfl, SqT.of (by walk_at "look"), rfl, ?_⟩
  | refine ⟨_, _, _, _, rfl, rfl, (by walk_at "look"), rfl, ?_⟩
  | refine .inl ⟨_, rfl, ?_⟩
  | refine ⟨.inl ⟨rfl, _, SqL.of (by walk_at "look")⟩, ?_⟩
  | refine ⟨_, _, rfl, ⟨by omega, by omega, by omega, by omega⟩, ?_⟩
  | refine ⟨_, rfl, (by omega), (by omega), ?_⟩
  | refine And.intro (by walk_at "cond") ?_)
local macro_rules | `(tactic| walk_at "rd") => `(tactic| repeat (walk_at "rd1"))

abbrev s_law : Stmt := top 30
abbrev N_law : List Str := ["script", "box", "net", "n", "text", "turn", "x"]
theorem sc_law : FnScope N_law ["script"] (defScope s_law) := ⟨rfl, rfl, rfl, by decide +kernel, rfl, by decide +kernel, by decide +kernel⟩
theorem good_len {n : Nat} {ties : List (Nat × Nat)} (h : Good n ties) : ties.length ≤ n * n := by
  refine Nat.le_trans (sub_len ties (allPairs n) ?_ fun p hp => mem_allPairs.mpr (h.1 p hp)) (allPairs_len n)
  refine h.2.imp fun {a b} hab e => ?_
  subst e
  unfold ltP at hab
  omega
theorem hu100 {A : Around} {k : Nat} (hr : Room k A) : A.units + 100 < cLine := by
  have := hr.un
  omega
/-- a key beside True -/
def Kv (H : Hp) (v : V) (p : Nat × Nat) : Prop := ∃ t u, v = .ref t ∧ H t = some (.tup [.ref u, .bl true]) ∧ H u = some (.tup [pI p.1, pI p.2])
theorem persKv : PersT Kv := fun _ _ _ _ k ⟨t, u, e, h, g⟩ => ⟨t, u, e, k _ _ h, k _ _ g⟩
theorem kv_pairs {H : Hp} : ∀ {vs : List V} {xs : List (Nat × Nat)}, Paired (Kv H) vs xs → ∃ ps : List Addr, vs = ps.map V.ref ∧ PairsT H ps (xs.map fun x => (key x, V.bl true))
  | _, _, .nil => ⟨[], rfl, .nil⟩
  | _, _, .cons ⟨t, u, e, h, g⟩ r => by
    obtain ⟨ps, e2, pt⟩ := kv_pairs r
    subst e
    subst e2
    exact ⟨t :: ps, rfl, .cons ⟨u, h, g⟩ pt⟩
section
variable {P : Program} {w : World} {K : PySem.W.Frag} {mg : Str → Option Value} {base : Heap}
def sp_law (K : PySem.W.Frag) : Sp := fun vs H Q _ => ∃ (a : Addr) (ns : List Int), vs = [.ref a] ∧ SqL K H a (ns.map V.int) ∧ ns.length ≤ 63 ∧ ∀ H', Q (.bl true) H'
theorem ok_law {CB f : Addr} {fd : FuncData} (F : FnP K "law" s_law f fd) (B : Bi mg) (c_law_box : Cal P w K mg base 1 "_law_box" (sp_box K)) (c_law_take : Cal P w K mg base 1 "_law_take" sp_take) (c_law_net : Cal P w K mg base 4 "_law_net" sp_net) (c_law_made : Cal P w K mg base 2 "_law_made" sp_made)
    (c_written : Cal P w K mg base 5 "written" sp_written) (c_law_text : Cal P w K mg base 1 "_law_text" sp_written) (c_read : Cal P w K mg base 4 "read" (sp_read CB)) (c_is_net : Cal P w K mg base 3 "is_net" (sp_is_net K))
    (c_law_turned : Cal P w K mg base 3 "_law_turned" sp_turned) (c_law_read : Cal P w K mg base 5 "_law_read" (sp_lread (K := K))) (c_law_own : Cal P w K mg base 2 "_law_own" (sp_own (K := K))) : FnOk P w K mg base (L2.CX P w) 6 f fd ["script"] (sp_law K) := by
  have nd := sc_law.nd
  refine F.ok sc_law ?_ fun cdv A' outer s H vs Q E hr h => ⟨_, (pss_cons (ps_set (i := 1) nd rfl (.inl rfl) (pe_cal c_law_box hr (by decide) (by rfl) passE (pa_cons (pv 0) pa_nil)))
  (pss_cons (ps_set (i := 2) nd rfl (.inl rfl) (pe_cal c_law_net hr (by decide) (by rfl) passE (pa_cons (pv 1) (pa_cons pe_int pa_nil))))
  (C8.pss_cut (ps_if (pt_cmpR op_eq (pe_cal c_law_take hr (by decide) (by rfl) passE (pa_cons (pv 1) (pa_cons pe_int pa_nil))) pe_int (nomark _)) (pss_cons (ps_set (i := 3) nd rfl (.inl rfl) (pe_cal c_law_take hr (by decide) (by rfl) passE (pa_cons (pv 1) (pa_cons pe_int pa_nil))))
  (pss_one (ps_set (i := 2) nd rfl (.inl rfl) (pe_cal c_law_made hr (by decide) (by rfl) passE (pa_cons (pv 3) (pa_cons (pe_callTy (call_dictT (K := K) rfl rfl (hu100 hr)) (by rfl) B.dict_ (by decide +kernel) (pa_cons (pe_lc (own := [("x", 6)]) rfl nd (pi_range1 (by rfl) B.range (pa_cons (pv 3) pa_nil)) (blkOk_by (own := [("x", 6)]) (N := N_law) (sc := defScope s_law) (by decide +kernel)) (fun _ _ _ _ _ => (pg_name (i := 6) nd rfl (.inl rfl) (.inr rfl))) (fun _ _ _ _ _ => pts_nil) (fun _ _ _ _ _ => (pe_tup (pa_cons (pe_tup (pa_cons (pv 6) (pa_cons (pe_op op_add (pe_op op_add (pv 6) pe_int) (pe_op op_mod (pv 6) pe_int)) pa_nil))) (pa_cons pe_bl pa_nil))))) pa_nil)) pa_nil)))))) pss_nil)
  (pss_cons (ps_set (i := 4) nd rfl (.inl rfl) (pe_cal c_written hr (by decide) (by rfl) passE (pa_cons (pv 2) pa_nil)))
  (pss_cons (ps_if (PW.pt (pw_or (pt_cmpR op_ne (pv 4) (pe_cal c_law_text hr (by decide) (by rfl) passE (pa_cons (pv 2) pa_nil)) (nomark _)) (pw_or (pt_cmpR (op_neDK (K := K) rfl hr.units) (pe_cal c_read hr (by decide) (by rfl) passE (pa_cons (pv 4) pa_nil)) (pv 2) (nomark _)) (pw_or1 (pt_not (pt_val (pe_cal c_is_net hr (by decide) (by rfl) passE (pa_cons (pe_cal c_read hr (by decide) (by rfl) passE (pa_cons (pv 4) pa_nil)) pa_nil)))))))) (pss_one (ps_ret pe_bl)) pss_nil)
  (pss_cons (ps_for passOwn rfl (pi_range1 (by rfl) B.range (pa_cons pe_int pa_nil)) (pg_name (i := 5) nd rfl (.inl rfl)) (pss_cons (ps_set (i := 4) nd rfl (.inl rfl) (pe_cal c_law_turned hr (by decide) (by rfl) passE (pa_cons (pv 1) (pa_cons (pe_cal c_law_text hr (by decide) (by rfl) passE (pa_cons (pv 2) pa_nil)) pa_nil))))
  (pss_one (ps_if (pt_cmpR (op_neDK (K := K) rfl hr.units) (pe_cal c_law_read hr (by decide) (by rfl) passE (pa_cons (pv 4) pa_nil)) (pe_cal c_law_own hr (by decide) (by rfl) passE (pa_cons (pv 4) pa_nil)) (nomark _)) (pss_one (ps_ret pe_bl)) pss_nil))))
  (pss_one (ps_ret pe_bl)))))))), ?_⟩
  · rintro vs H Q E ⟨a, ns, rfl, _⟩
    rfl
  · obtain ⟨a, ns, rfl, hS, hn, q⟩ := h
    refine ⟨_, rfl, a, ns, rfl, hS, hn, fun b l H1 s1 hb => ?_⟩
    refine ⟨_, rfl, b, l, 7, rfl, by decide, hb, fun v n0 ties0 H2 hn0 hg0 hN0 k2 => ?_⟩
    refine ⟨fun σ' H' => ∃ v3 v6 v n ties, σ' = [some (.ref a), some (.ref b), some v, v3, none, none, v6] ∧ Kp b l H1 H' ∧ Net H' v n ties ∧ n ≤ 40 ∧ Good n ties, ?_, ?_⟩
    · refine ⟨_, rfl, b, l, _, rfl, k2.box, by decide, by decide, fun r H3 r0 r1 k3 => ⟨rfl, _, rfl, ifI (fun c => ?_) (fun c => ?_)⟩⟩
      · refine ⟨_, rfl, b, l, _, rfl, k3.box, by decide, by decide, fun n H4 n0 n1 k4 => ?_⟩
        obtain ⟨m, rfl⟩ := Int.eq_ofNat_of_zero_le n0
        refine ⟨_, rfl, _, rfl, _, rfl, by omega, by omega, fun D hD => ?_⟩
        refine comp_range (lo := 0) (n := (m : Int).toNat) (sizeBig (by omega)) (fun k => some (k, k + 1 + k % 3)) persKv hD ?_ ?_
        · intro i H5 Yes No hi sm5 yes no
          rw [Int.zero_add]
          refine ⟨rfl, _, rfl, _, rfl, _, _, rfl, rfl, _, rfl, _, _, rfl, rfl, by omega, _, _, rfl, rfl, by show 2 ≤ sizeLine; decide, fun t2 h2 => ⟨by show 2 ≤ sizeLine; decide, fun t1 h1 => ?_⟩⟩
          refine yes _ rfl _ _ (sNew (same_laid h2) h1) ⟨t1, t2, rfl, upd_same, ?_⟩
          rw [upd_ne (ne_of_none upd_same h1), upd_same]
          have e : (i : Int) + 1 + (i : Int) % 3 = ((i + 1 + i % 3 : Nat) : Int) := by omega
          show some (HO.tup [.int i, .int ((i : Int) + 1 + (i : Int) % 3)]) = _
          rw [e]
          rfl
        · intro H5 ys sm5 hy pr
          rw [filterMap_some] at pr
          obtain ⟨ps, rfl, pt⟩ := kv_pairs pr
          refine ⟨D, ps, _, rfl, SqL.of hy, pt, fun d hd => ?_⟩
          refine ⟨m, d, _, rfl, by omega, upd_same, fun v9 H9 s9 hN9 => ?_⟩
          exact ⟨_, _, v9, m, _, rfl, ((k2.trans k3).trans k4).then ((sNew sm5 hd).trans s9), hN9, by omega, Good.filter _⟩
      · exact ⟨none, none, v, n0, ties0, rfl, k2.trans k3, hN0.keep (k3.kt k2.box), by omega, hg0⟩
    · rintro σ' H3 ⟨v3, v6, v, n, ties, rfl, k3, hN, hn, hg⟩
      have hlen : ties.length ≤ 2000 := by
        have h1 := good_len hg
        have h2 : n * n ≤ 40 * 40 := Nat.mul_le_mul hn hn
        omega
      have tl := textOf_len hn hg
      refine ⟨_, rfl, v, n, ties, rfl, hN, hn, hg, hlen, fun H4 s4 => ?_⟩
      have N4 := hN.keep (sKt s4)
      refine ⟨_, rfl, _, rfl, v, n, ties, rfl, N4, hn, hg, hlen, fun H5 s5 => ⟨rfl, _, rfl, ifNS (fun c => absurd rfl c) (fun _ => ?_)⟩⟩
      have N5 := N4.keep (sKt s5)
      refine ⟨_, rfl, textOf n ties, rfl, by omega, fun n6 ps6 e6 v6 H6 s6 N6 => ?_, fun e => by rw [read_text hn hg] at e; cases e⟩
      rw [read_text hn hg] at e6
      cases e6
      have N56 := N5.keep (sKt s6)
      refine ⟨_, rfl, _, _, N6.dp, N56.dp, (netD_shaped _ _).1, (netD_shaped _ _).1, _, rfl, ?_⟩
      rw [shaped_eqv (netD_shaped _ _).1]
      refine iteF ?_
      refine ⟨_, rfl, textOf n ties, rfl, by omega, fun n7 ps7 e7 v7 H7 s7 N7 => ?_, fun e => by rw [read_text hn hg] at e; cases e⟩
      rw [read_text hn hg] at e7
      cases e7
      refine ⟨v7, _, rfl, N7.dp, fun H8 s8 => ⟨_, rfl, ?_⟩⟩
      rw [isNetD_net.mpr ⟨hn, hg⟩]
      refine iteF ?_
      have s48 := (((s4.trans s5).trans s6).trans s7).trans s8
      refine ⟨_, rfl, by omega, by omega, for_range (lo := 0) (n := 6) (fun i σ H' => ∃ w4 w5, σ = [some (.ref a), some (.ref b), some v, v3, w4, w5, _] ∧ Kp b l H1 H' ∧ Net H' v n ties) ⟨_, _, rfl, k3.then s48, hN.keep (sKt s48)⟩ ?_ ?_⟩
      · rintro i σ H9 hi ⟨w4, w5, rfl, k9, N9⟩
        refine ⟨_, rfl, _, rfl, v, n, ties, rfl, N9, hn, hg, hlen, fun HA sA => ?_⟩
        refine ⟨b, l, textOf n ties, rfl, (k9.then sA).box, by omega, fun z HB hz kB => ?_⟩
        refine ⟨_, rfl, z, rfl, by omega, fun v1 HC sC d1 => ⟨_, rfl, z, rfl, by omega, fun v2 HD sD d2 => ?_⟩⟩
        rw [read_own] at d1
        refine ⟨_, _, Dp.same sD _ _ d1, d2, ownD_shaped _, ownD_shaped _, _, rfl, ?_⟩
        rw [shaped_eqv (ownD_shaped _)]
        refine iteF ?_
        have kA := k9.then sA
        have NB := (N9.keep (sKt sA)).keep (kB.kt kA.box)
        exact ⟨_, _, rfl, (kA.trans kB).then (sC.trans sD), NB.keep (sKt (sC.trans sD))⟩
      · rintro σ H9 ⟨w4, w5, rfl, k9, N9⟩
        exact q _
end
end Ns

/-! Own layer H: the end, where a callee's errors are told by a context of the world's. -/
namespace Ns
open PySem PySem.Spec PyProof.Rows L2
section
variable {l : PySem.W.OpenLaw} {n k : Nat} {q : Program} {loose : List Str} {d : DefRec} {x : Str}
variable {XP : (Str → Option Value) → Heap → Prop}
variable {YP : World → Heap → Prop}
/-- the law's object keeps the law at a heap that says YP -/
def EndAt (l : PySem.W.OpenLaw) (w : World) (mg : Str → Option Value) (fa : Addr) (n k : Nat) (x : Str) (h : Heap) : Prop :=
  ∃ (K : PySem.W.Frag) (fd : FuncData) (sp : Sp), K.In h ∧
    (∀ (s : Shared) (u : Value), BindsTo s fd ⟨[u], []⟩ [(x, u)]) ∧
    (∀ (H : Hp) (a : Addr) (is : List Int), is.length ≤ n → SqL K H a (is.map V.int) →
      sp [.ref a] H (fun v _ => v = .bl true) fun _ _ _ => False) ∧
    ∀ base : Heap, K.In base → base.Ns mainGlobals mg → FnOk l.prog w K mg base (L2.CX l.prog w) k fa fd [x] sp
theorem end_walk (hn : l.most = some n) (small : n ≤ sizeLine) (plain : d.params.defaults = [])
    (room : Room k callerA)
    (F : ∀ w mg fa h, YP w h → h.Ns mainGlobals mg → mg d.name = some (.ref fa) → EndAt l w mg fa n k x h) :
    PySem.W.WalkO q loose XP YP l.row.toRowW d [] (fun f vs => PySem.call f vs) := by
  refine Att.attach_call hn plain ?_
  intro w s₀ s₁ mg mb fa o pm cd doc a vs is G Y ho hd hcd hmg hobj hints hlen hg
  have z := F w mg fa _ Y G.T.g hmg
  obtain ⟨K, fd, sp, KX, hb, hsp, hF⟩ := z
  have le := Nat.le_trans hlen small
  have nothing : ∀ (H : Hp) (e : Value) (s' : Shared), L2.CX l.prog w [] H s₁ (fun _ _ _ => False) e s' → False := by
    intro H e s' c
    obtain ⟨_, _, _, _, _, _, _, _, _, _, _, _, no⟩ := c
    exact no
  refine law_call KX G.T.g G.T.b G.T.builtins G.T.nolimit hg hobj hints le room hF hb ?_ nothing
  intro H _ hS
  exact hsp H a is hlen hS
end
end Ns

/-! Own layer: the head and the end of the law of texts. -/
namespace Ns
open PySem PySem.Spec PyProof.Rows L2
abbrev R : PySem.W.OpenRow := PySem.W.OpenLaw.row PySem.Challenge.rw_netstory_k41_texts_there_and_back
def loose0 : List PySem.Str := ["NetstoryError", "BadNet", "MOST", "is_number", "is_pair", "is_net", "check_net", "written", "number", "read", "_law_box", "_law_take", "_law_pick", "_law_pairs", "_law_made", "_law_row", "_law_by_stretches", "_law_by_lines", "_law_by_twins", "_law_by_sewing", "_law_net", "_law_text", "_law_read", "_law_figures", "_law_own", "_law_turned"]
abbrev loose : List PySem.Str := loose0
def d_is_number : He.DefD := ⟨("is_number", none), "is_number", "is_number", defArgs s_is_number, defBody s_is_number, defScope s_is_number, [], []⟩
def d_is_pair : He.DefD := ⟨("is_pair", none), "is_pair", "is_pair", defArgs s_is_pair, defBody s_is_pair, defScope s_is_pair, [], []⟩
def d_is_net : He.DefD := ⟨("is_net", none), "is_net", "is_net", defArgs s_is_net, defBody s_is_net, defScope s_is_net, [], []⟩
def d_check_net : He.DefD := ⟨("check_net", none), "check_net", "check_net", defArgs s_check_net, defBody s_check_net, defScope s_check_net, [], []⟩
def d_written : He.DefD := ⟨("written", none), "written", "written", defArgs s_written, defBody s_written, defScope s_written, [], []⟩
def d_number : He.DefD := ⟨("number", none), "number", "number", defArgs s_number, defBody s_number, defScope s_number, [], []⟩
def d_read : He.DefD := ⟨("read", none), "read", "read", defArgs s_read, defBody s_read, defScope s_read, [], []⟩
def d_law_box : He.DefD := ⟨("_law_box", none), "_law_box", "_law_box", defArgs s_law_box, defBody s_law_box, defScope s_law_box, [], []⟩
def d_law_take : He.DefD := ⟨("_law_take", none), "_law_take", "_law_take", defArgs s_law_take, defBody s_law_take, defScope s_law_take, [], []⟩
def d_law_pick : He.DefD := ⟨("_law_pick", none), "_law_pick", "_law_pick", defArgs s_law_pick, defBody s_law_pick, defScope s_law_pick, [], []⟩
def d_law_pairs : He.DefD := ⟨("_law_pairs", none), "_law_pairs", "_law_pairs", defArgs s_law_pairs, defBody s_law_pairs, defScope s_law_pairs, [], []⟩
def d_law_made : He.DefD := ⟨("_law_made", none), "_law_made", "_law_made", defArgs s_law_made, defBody s_law_made, defScope s_law_made, [], []⟩
def d_law_row : He.DefD := ⟨("_law_row", none), "_law_row", "_law_row", defArgs s_law_row, defBody s_law_row, defScope s_law_row, [], []⟩
def d_law_by_stretches : He.DefD := ⟨("_law_by_stretches", none), "_law_by_stretches", "_law_by_stretches", defArgs s_law_by_stretches, defBody s_law_by_stretches, defScope s_law_by_stretches, [], []⟩
def d_law_by_lines : He.DefD := ⟨("_law_by_lines", none), "_law_by_lines", "_law_by_lines", defArgs s_law_by_lines, defBody s_law_by_lines, defScope s_law_by_lines, [], []⟩
def d_law_by_twins : He.DefD := ⟨("_law_by_twins", none), "_law_by_twins", "_law_by_twins", defArgs s_law_by_twins, defBody s_law_by_twins, defScope s_law_by_twins, [], []⟩
def d_law_by_sewing : He.DefD := ⟨("_law_by_sewing", none), "_law_by_sewing", "_law_by_sewing", defArgs s_law_by_sewing, defBody s_law_by_sewing, defScope s_law_by_sewing, [], []⟩
def d_law_net : He.DefD := ⟨("_law_net", none), "_law_net", "_law_net", defArgs s_law_net, defBody s_law_net, defScope s_law_net, [], []⟩
def d_law_text : He.DefD := ⟨("_law_text", none), "_law_text", "_law_text", defArgs s_law_text, defBody s_law_text, defScope s_law_text, [], []⟩
def d_law_read : He.DefD := ⟨("_law_read", none), "_law_read", "_law_read", defArgs s_law_read, defBody s_law_read, defScope s_law_read, [], []⟩
def d_law_figures : He.DefD := ⟨("_law_figures", none), "_law_figures", "_law_figures", defArgs s_law_figures, defBody s_law_figures, defScope s_law_figures, [], []⟩
def d_law_own : He.DefD := ⟨("_law_own", none), "_law_own", "_law_own", defArgs s_law_own, defBody s_law_own, defScope s_law_own, [], []⟩
def d_law_turned : He.DefD := ⟨("_law_turned", none), "_law_turned", "_law_turned", defArgs s_law_turned, defBody s_law_turned, defScope s_law_turned, [], []⟩
def d_law : He.DefD := ⟨("law", none), "law", "law", defArgs s_law, defBody s_law, defScope s_law, [], []⟩
def fn : List He.DefD := [d_is_number, d_is_pair, d_is_net, d_check_net, d_written, d_number, d_read, d_law_box, d_law_take, d_law_pick, d_law_pairs, d_law_made, d_law_row, d_law_by_stretches, d_law_by_lines, d_law_by_twins, d_law_by_sewing, d_law_net, d_law_text, d_law_read, d_law_figures, d_law_own, d_law_turned, d_law]
def fx : List FT := [biT, excT "BadNet", fun K => (He.Fa.exm "BadNet" "BadNet" true).ok K, fun K => (He.Fa.int "MOST" 40).ok K, fun K => (He.Fa.glo "is_number").ok K, fun K => (He.Fa.glo "is_pair").ok K, fun K => (He.Fa.glo "is_net").ok K, fun K => (He.Fa.glo "check_net").ok K, fun K => (He.Fa.glo "written").ok K, fun K => (He.Fa.glo "number").ok K, fun K => (He.Fa.glo "read").ok K, fun K => (He.Fa.glo "_law_box").ok K, fun K => (He.Fa.glo "_law_take").ok K, fun K => (He.Fa.glo "_law_pick").ok K, fun K => (He.Fa.glo "_law_pairs").ok K, fun K => (He.Fa.glo "_law_made").ok K, fun K => (He.Fa.glo "_law_row").ok K, fun K => (He.Fa.glo "_law_by_stretches").ok K, fun K => (He.Fa.glo "_law_by_lines").ok K, fun K => (He.Fa.glo "_law_by_twins").ok K, fun K => (He.Fa.glo "_law_by_sewing").ok K, fun K => (He.Fa.glo "_law_net").ok K, fun K => (He.Fa.glo "_law_text").ok K, fun K => (He.Fa.glo "_law_read").ok K, fun K => (He.Fa.glo "_law_figures").ok K, fun K => (He.Fa.glo "_law_own").ok K, fun K => (He.Fa.glo "_law_turned").ok K, fun K => (He.Fa.glo "law").ok K]
abbrev hk : PySem.W.Hook := hookX 5 fx fn
def ob (s : PySem.W.SharedT) : He.AlD := obsXG 5 fx fn (HandSHeadRun.getT s)
theorem ob_eq (s : PySem.W.SharedT) : ob s = hk.obs s.abs := obsXG_eq (HandSHeadRun.getT_eq s)
theorem head_run (w : World) : HandSHeadRun.RunEq R (PySem.W.view R.prog [30]) hk ob 6000 loose w := by
  intro os
  kernel_rfl
section
variable {K : PySem.W.Frag} {h : Heap} {mg : Str → Option Value}
theorem at_is_number (X : K.In h) (G : h.Ns mainGlobals mg) (c : SaysX fx fn K) : At K mg "is_number" s_is_number := by
  obtain ⟨fd, F⟩ := c.def_ 0 (d := d_is_number)
  exact ⟨_, fd, F, He.glo_ok X G (c.fact 4)⟩
theorem at_is_pair (X : K.In h) (G : h.Ns mainGlobals mg) (c : SaysX fx fn K) : At K mg "is_pair" s_is_pair := by
  obtain ⟨fd, F⟩ := c.def_ 1 (d := d_is_pair)
  exact ⟨_, fd, F, He.glo_ok X G (c.fact 5)⟩
theorem at_is_net (X : K.In h) (G : h.Ns mainGlobals mg) (c : SaysX fx fn K) : At K mg "is_net" s_is_net := by
  obtain ⟨fd, F⟩ := c.def_ 2 (d := d_is_net)
  exact ⟨_, fd, F, He.glo_ok X G (c.fact 6)⟩
theorem at_check_net (X : K.In h) (G : h.Ns mainGlobals mg) (c : SaysX fx fn K) : At K mg "check_net" s_check_net := by
  obtain ⟨fd, F⟩ := c.def_ 3 (d := d_check_net)
  exact ⟨_, fd, F, He.glo_ok X G (c.fact 7)⟩
theorem at_written (X : K.In h) (G : h.Ns mainGlobals mg) (c : SaysX fx fn K) : At K mg "written" s_written := by
  obtain ⟨fd, F⟩ := c.def_ 4 (d := d_written)
  exact ⟨_, fd, F, He.glo_ok X G (c.fact 8)⟩
theorem at_number (X : K.In h) (G : h.Ns mainGlobals mg) (c : SaysX fx fn K) : At K mg "number" s_number := by
  obtain ⟨fd, F⟩ := c.def_ 5 (d := d_number)
  exact ⟨_, fd, F, He.glo_ok X G (c.fact 9)⟩
theorem at_read (X : K.In h) (G : h.Ns mainGlobals mg) (c : SaysX fx fn K) : At K mg "read" s_read := by
  obtain ⟨fd, F⟩ := c.def_ 6 (d := d_read)
  exact ⟨_, fd, F, He.glo_ok X G (c.fact 10)⟩
theorem at_law_box (X : K.In h) (G : h.Ns mainGlobals mg) (c : SaysX fx fn K) : At K mg "_law_box" s_law_box := by
  obtain ⟨fd, F⟩ := c.def_ 7 (d := d_law_box)
  exact ⟨_, fd, F, He.glo_ok X G (c.fact 11)⟩
theorem at_law_take (X : K.In h) (G : h.Ns mainGlobals mg) (c : SaysX fx fn K) : At K mg "_law_take" s_law_take := by
  obtain ⟨fd, F⟩ := c.def_ 8 (d := d_law_take)
  exact ⟨_, fd, F, He.glo_ok X G (c.fact 12)⟩
theorem at_law_pick (X : K.In h) (G : h.Ns mainGlobals mg) (c : SaysX fx fn K) : At K mg "_law_pick" s_law_pick := by
  obtain ⟨fd, F⟩ := c.def_ 9 (d := d_law_pick)
  exact ⟨_, fd, F, He.glo_ok X G (c.fact 13)⟩
theorem at_law_pairs (X : K.In h) (G : h.Ns mainGlobals mg) (c : SaysX fx fn K) : At K mg "_law_pairs" s_law_pairs := by
  obtain ⟨fd, F⟩ := c.def_ 10 (d := d_law_pairs)
  exact ⟨_, fd, F, He.glo_ok X G (c.fact 14)⟩
theorem at_law_made (X : K.In h) (G : h.Ns mainGlobals mg) (c : SaysX fx fn K) : At K mg "_law_made" s_law_made := by
  obtain ⟨fd, F⟩ := c.def_ 11 (d := d_law_made)
  exact ⟨_, fd, F, He.glo_ok X G (c.fact 15)⟩
theorem at_law_row (X : K.In h) (G : h.Ns mainGlobals mg) (c : SaysX fx fn K) : At K mg "_law_row" s_law_row := by
  obtain ⟨fd, F⟩ := c.def_ 12 (d := d_law_row)
  exact ⟨_, fd, F, He.glo_ok X G (c.fact 16)⟩
theorem at_law_by_stretches (X : K.In h) (G : h.Ns mainGlobals mg) (c : SaysX fx fn K) : At K mg "_law_by_stretches" s_law_by_stretches := by
  obtain ⟨fd, F⟩ := c.def_ 13 (d := d_law_by_stretches)
  exact ⟨_, fd, F, He.glo_ok X G (c.fact 17)⟩
theorem at_law_by_lines (X : K.In h) (G : h.Ns mainGlobals mg) (c : SaysX fx fn K) : At K mg "_law_by_lines" s_law_by_lines := by
  obtain ⟨fd, F⟩ := c.def_ 14 (d := d_law_by_lines)
  exact ⟨_, fd, F, He.glo_ok X G (c.fact 18)⟩
theorem at_law_by_twins (X : K.In h) (G : h.Ns mainGlobals mg) (c : SaysX fx fn K) : At K mg "_law_by_twins" s_law_by_twins := by
  obtain ⟨fd, F⟩ := c.def_ 15 (d := d_law_by_twins)
  exact ⟨_, fd, F, He.glo_ok X G (c.fact 19)⟩
theorem at_law_by_sewing (X : K.In h) (G : h.Ns mainGlobals mg) (c : SaysX fx fn K) : At K mg "_law_by_sewing" s_law_by_sewing := by
  obtain ⟨fd, F⟩ := c.def_ 16 (d := d_law_by_sewing)
  exact ⟨_, fd, F, He.glo_ok X G (c.fact 20)⟩
theorem at_law_net (X : K.In h) (G : h.Ns mainGlobals mg) (c : SaysX fx fn K) : At K mg "_law_net" s_law_net := by
  obtain ⟨fd, F⟩ := c.def_ 17 (d := d_law_net)
  exact ⟨_, fd, F, He.glo_ok X G (c.fact 21)⟩
theorem at_law_text (X : K.In h) (G : h.Ns mainGlobals mg) (c : SaysX fx fn K) : At K mg "_law_text" s_law_text := by
  obtain ⟨fd, F⟩ := c.def_ 18 (d := d_law_text)
  exact ⟨_, fd, F, He.glo_ok X G (c.fact 22)⟩
theorem at_law_read (X : K.In h) (G : h.Ns mainGlobals mg) (c : SaysX fx fn K) : At K mg "_law_read" s_law_read := by
  obtain ⟨fd, F⟩ := c.def_ 19 (d := d_law_read)
  exact ⟨_, fd, F, He.glo_ok X G (c.fact 23)⟩
theorem at_law_figures (X : K.In h) (G : h.Ns mainGlobals mg) (c : SaysX fx fn K) : At K mg "_law_figures" s_law_figures := by
  obtain ⟨fd, F⟩ := c.def_ 20 (d := d_law_figures)
  exact ⟨_, fd, F, He.glo_ok X G (c.fact 24)⟩
theorem at_law_own (X : K.In h) (G : h.Ns mainGlobals mg) (c : SaysX fx fn K) : At K mg "_law_own" s_law_own := by
  obtain ⟨fd, F⟩ := c.def_ 21 (d := d_law_own)
  exact ⟨_, fd, F, He.glo_ok X G (c.fact 25)⟩
theorem at_law_turned (X : K.In h) (G : h.Ns mainGlobals mg) (c : SaysX fx fn K) : At K mg "_law_turned" s_law_turned := by
  obtain ⟨fd, F⟩ := c.def_ 22 (d := d_law_turned)
  exact ⟨_, fd, F, He.glo_ok X G (c.fact 26)⟩
theorem at_law (X : K.In h) (G : h.Ns mainGlobals mg) (c : SaysX fx fn K) : At K mg "law" s_law := by
  obtain ⟨fd, F⟩ := c.def_ 23 (d := d_law)
  exact ⟨_, fd, F, He.glo_ok X G (c.fact 27)⟩
end
theorem law_facts {P : Program} {w : World} {K : PySem.W.Frag} {h : Heap} {mg : Str → Option Value} {f : Addr} (X : K.In h) (G : h.Ns mainGlobals mg) (hfa : mg ("law" : Str) = some (.ref f)) (c : SaysX fx fn K) :
    ∃ fd : FuncData, (∀ (s : Shared) (v : Value), BindsTo s fd ⟨[v], []⟩ [("script", v)]) ∧ ∀ base : Heap, K.In base → base.Ns mainGlobals mg → FnOk P w K mg base (L2.CX P w) 6 f fd ["script"] (sp_law K) := by
  obtain ⟨f2, fd, F, hm⟩ := (at_law X G c).ex
  have e := hfa.symm.trans hm
  cases e
  have b := FunD.bindsA (ps := ["script"]) F fun _ _ _ _ _ _ us hl => match us, hl with | [_], _ => rfl
  refine ⟨fd, fun s v => b s [v] rfl, fun base _ _ => ?_⟩
  have B : Bi mg := bi_of X G (c.fact 0)
  have xB : ExcC K mg "BadNet" (He.ga K "BadNet") := excC_of X G (c.fact 1)
  have xm : PySem.W.exmOne K (.ref (He.ga K "BadNet")) (.ref (He.ga K "BadNet")) = some true := He.exm_ok (c.fact 2)
  have iM : ∃ t, mg "MOST" = some (.int 40 t) := He.int_ok X G (c.fact 3)
  have c1 := cal_is_number (P := P) (w := w) (base := base) (at_is_number X G c) B
  have c2 := cal_is_pair (at_is_pair X G c) B c1
  have c3 := cal_is_net (at_is_net X G c) B iM c1 c2
  have c4 := cal_check_net (at_check_net X G c) xB c3
  have c5 := cal_written (at_written X G c) B c4
  have c6 := cal_number (P := P) (w := w) (base := base) (at_number X G c) B xB iM
  have c7 := cal_read (at_read X G c) B xB c6 c3
  have t1 := cal_box (P := P) (w := w) (base := base) (at_law_box X G c) B
  have t2 := cal_take (P := P) (w := w) (base := base) (at_law_take X G c) B
  have t3 := cal_pick (at_law_pick X G c) B t2
  have t4 := cal_pairs (P := P) (w := w) (base := base) (at_law_pairs X G c) B
  have t5 := cal_made (at_law_made X G c) B t4
  have t6 := cal_row (at_law_row X G c) B t2
  have u1 := cal_by_stretches (at_law_by_stretches X G c) B t2 t4
  have u2 := cal_by_lines (at_law_by_lines X G c) B t6 t4
  have u3 := cal_by_twins (at_law_by_twins X G c) B t2
  have u4 := cal_by_sewing (at_law_by_sewing X G c) B t2 t3
  have u5 := cal_net (at_law_net X G c) B t2 t3 t4 t5 u1 u2 u3 u4
  have v1 := cal_text (P := P) (w := w) (base := base) (at_law_text X G c) B
  have v2 := cal_lread (at_law_read X G c) B xB xm c7
  have v3 := cal_figures (P := P) (w := w) (base := base) (at_law_figures X G c) B
  have v4 := cal_own (at_law_own X G c) B v3
  have v5 := cal_turned (at_law_turned X G c) B t2 t3
  exact ok_law F B t1 t2 u5 t5 c5 v1 c7 c3 v5 v2 v4
end Ns
open PySem PySem.W PySem.Calls PyProof.Rows
theorem PySem.Challenge.cw_netstory_k41_texts_there_and_back_holds : PySem.Challenge.rw_netstory_k41_texts_there_and_back.Holds := by
  w_on; o_law
  refine HandSHeadRun.head_any (r := OpenLaw.row PySem.Challenge.rw_netstory_k41_texts_there_and_back) (q := view (OpenLaw.row PySem.Challenge.rw_netstory_k41_texts_there_and_back).prog [30])
    (H := Ns.hk) (ob := Ns.ob) (M := 6000) (loose := Ns.loose) (kwd := [])
    (d := HandSHeadRun.topDef (OpenLaw.row PySem.Challenge.rw_netstory_k41_texts_there_and_back).prog 30) Ns.ob_eq
    (by kernel_rfl) (fun s => by kernel_rfl) Ns.head_run (by kernel_rfl) (by kernel_rfl) (by kernel_rfl)
    (by rfl) (by first | assumption | decide +kernel) (by decide +kernel)
    ⟨rfl, rfl, rfl, rfl, rfl, by decide +kernel⟩ ?hw ?hc
  case hw => w_witness2
  case hc =>
    refine Ns.end_walk (l := PySem.Challenge.rw_netstory_k41_texts_there_and_back) (n := 63) (k := 6) (x := "script")
      rfl (by decide) (by kernel_rfl) ⟨rfl, by decide, by decide⟩ ?F
    rintro w mg fa h ⟨K, KX, c⟩ G hmg0
    have hmg : mg ("law" : PySem.Str) = some (.ref fa) := by
      have e : (HandSHeadRun.topDef (OpenLaw.row PySem.Challenge.rw_netstory_k41_texts_there_and_back).prog 30).name = ("law" : PySem.Str) := by kernel_rfl
      rw [← e]
      exact hmg0
    obtain ⟨fd, hb, hF⟩ := Ns.law_facts (P := (PySem.Challenge.rw_netstory_k41_texts_there_and_back).prog) (w := w) KX G hmg c
    exact ⟨K, fd, Ns.sp_law K, KX, hb, fun H a ns hl hS => ⟨a, ns, rfl, hS, hl, fun _ => rfl⟩, hF⟩

